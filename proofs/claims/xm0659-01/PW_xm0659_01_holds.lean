import PyProof.Rows.All
import Wide.All
import OpenK.AllK
import Wide.FinOn
import PySem.Challenge.RW_xm0659_01
open PySem PySem.W PyProof.Rows
set_option Elab.async false
set_option maxRecDepth 100000
set_option maxHeartbeats 8000000
noncomputable section
open PySem PySem.W PyProof.Rows
set_option Elab.async false
set_option maxRecDepth 100000
set_option maxHeartbeats 8000000
namespace Mu
/-- the text's statements, by their places -/
noncomputable def stm (i : Nat) : Stmt := (PySem.Challenge.pw_xm0659_01.main.body[i]?).getD (.Pass ⟨0, 0, 0, 0⟩)
noncomputable def met (i k : Nat) : Stmt := match stm i with
  | .ClassDef (body := b) .. => (b[k]?).getD (.Pass ⟨0, 0, 0, 0⟩)
  | s => s
noncomputable def fdArgs : Stmt → Arguments
  | .FunctionDef (args := a) .. => a
  | _ => ⟨[], [], none, [], [], none, []⟩
noncomputable def fdBody : Stmt → List Stmt
  | .FunctionDef (body := b) .. => b
  | _ => []
noncomputable def fdScope : Stmt → Scope
  | .FunctionDef (scope := s) .. => s
  | _ => ⟨.function, [], false, false, []⟩
noncomputable abbrev kStr (x : String) (t : Nat) : Value := .str (Str.ofString x) t
noncomputable abbrev kInt (i : Int) : Value := .int i 0
noncomputable def ent (P : Params) (x : String) (t : Nat) (v : Value) : DictEntry := ⟨PyData.keyHash P (Str.ofString x), kStr x t, v⟩
noncomputable def dob (es : List DictEntry) (n : Nat) : Obj := { cls := .type "dict", data := .dict es.toArray n }
noncomputable def cob (l : List Value) : Obj := { cls := .type "code", data := .fields l.toArray }
noncomputable def fobj (n q : String) (s : Stmt) (m : String) (t : Nat) (cd : Addr) : Obj :=
  { cls := .type "function", data := .func { name := Str.ofString n, qualname := Str.ofString q, params := fdArgs s, body := .stmts (fdBody s), scope := fdScope s, globals := 3, closure := [], defaults := .none, kwdefaults := .none, pyModule := kStr m t, code := .ref cd } }
/-- the objects that the law reads: where the top leaves them -/
noncomputable def KK (P : Params) : Frag :=
  (nat_lit 3, dob [ent P "__name__" 165 (kStr "law_xm0659_01" 418), ent P "__doc__" 166 (.none), ent P "__package__" 167 (.none), ent P "__loader__" 168 (.builtin "__main__.__loader__#opaque"), ent P "__spec__" 169 (.none), ent P "__annotations__" 170 (.ref 6), ent P "__builtins__" 171 (.ref 4), ent P "__file__" 173 (kStr "/claim/cut.py" 172), ent P "__cached__" 174 (.none), ent P "_wall" 193 (.ref 21), ent P "KIND" 195 (.int 0 194), ent P "LABEL" 197 (.int 1 196), ent P "VALUE" 199 (.int 2 198), ent P "ATTRIBUTES" 201 (.int 3 200), ent P "CHILDREN" 203 (.int 4 202), ent P "may_match" 213 (.ref 28), ent P "unlike_attributes" 219 (.ref 33), ent P "own_cost" 227 (.ref 40), ent P "Matching" 312 (.ref 85), ent P "own_edits" 327 (.ref 96), ent P "inner_tasks" 341 (.ref 103), ent P "FlatForm" 417 (.ref 148), ent P "_law_pool" 430 (.ref 159), ent P "_law_take" 439 (.ref 166), ent P "_law_one" 447 (.ref 173), ent P "_law_element" 456 (.ref 180), ent P "_law_child" 464 (.ref 187), ent P "_law_tasks" 481 (.ref 194), ent P "_law_inner_right" 487 (.ref 199), ent P "_law_own_right" 493 (.ref 204), ent P "law" 499 (.ref 209)] 31) ::
  (nat_lit 27, cob [kStr "may_match" 206, kStr "may_match" 207, kStr "/claim/cut.py" 208, kInt 10, kInt 2, kInt 0, kInt 0, kInt 3, .ref 22, .bool true, kInt 181, .ref 23, .none, .ref 24, .ref 25, .ref 26, kInt 211, kInt 10, kStr "/claim/cut.py" 212]) ::
  (nat_lit 28, fobj "may_match" "may_match" (stm 7) "markupmill.matching" 204 27) ::
  (nat_lit 32, cob [kStr "unlike_attributes" 214, kStr "unlike_attributes" 215, kStr "/claim/cut.py" 216, kInt 12, kInt 2, kInt 0, kInt 0, kInt 3, .ref 29, .bool true, kInt 181, .ref 30, .none, .none, .none, .ref 31, kInt 217, kInt 12, kStr "/claim/cut.py" 218]) ::
  (nat_lit 33, fobj "unlike_attributes" "unlike_attributes" (stm 8) "markupmill.matching" 204 32) ::
  (nat_lit 39, cob [kStr "own_cost" 220, kStr "own_cost" 221, kStr "/claim/cut.py" 222, kInt 22, kInt 2, kInt 0, kInt 0, kInt 3, .ref 34, .bool true, kInt 181, .ref 35, .none, .ref 36, .ref 37, .ref 38, kInt 225, kInt 22, kStr "/claim/cut.py" 226]) ::
  (nat_lit 40, fobj "own_cost" "own_cost" (stm 9) "markupmill.matching" 204 39) ::
  (nat_lit 53, cob [kStr "__init__" 240, kStr "Matching.__init__" 241, kStr "/claim/cut.py" 242, kInt 26, kInt 3, kInt 0, kInt 0, kInt 3, .ref 48, .bool true, kInt 181, .ref 49, .none, .ref 50, .ref 51, .ref 52, kInt 248, kInt 26, kStr "/claim/cut.py" 249]) ::
  (nat_lit 54, fobj "__init__" "Matching.__init__" (met 10 0) "markupmill.matching" 204 53) ::
  (nat_lit 60, cob [kStr "table" 251, kStr "Matching.table" 252, kStr "/claim/cut.py" 253, kInt 35, kInt 3, kInt 0, kInt 0, kInt 3, .ref 55, .bool true, kInt 181, .ref 56, .none, .ref 57, .ref 58, .ref 59, kInt 267, kInt 35, kStr "/claim/cut.py" 268]) ::
  (nat_lit 61, fobj "table" "Matching.table" (met 10 1) "markupmill.matching" 204 60) ::
  (nat_lit 67, cob [kStr "steps" 270, kStr "Matching.steps" 271, kStr "/claim/cut.py" 272, kInt 52, kInt 3, kInt 0, kInt 0, kInt 3, .ref 62, .bool true, kInt 181, .ref 63, .none, .ref 64, .ref 65, .ref 66, kInt 283, kInt 52, kStr "/claim/cut.py" 284]) ::
  (nat_lit 68, fobj "steps" "Matching.steps" (met 10 2) "markupmill.matching" 204 67) ::
  (nat_lit 84, dob [ent P "__module__" 235 (kStr "markupmill.matching" 204), ent P "__firstlineno__" 239 (.int 24 238), ent P "__init__" 250 (.ref 54), ent P "table" 269 (.ref 61), ent P "steps" 285 (.ref 68), ent P "cost" 294 (.ref 75), ent P "whole_cost" 301 (.ref 82), ent P "__static_attributes__" 305 (.ref 83), ent P "__dict__" 307 (.ref 86), ent P "__weakref__" 309 (.ref 87), ent P "__doc__" 310 (.none)] 4) ::
  (nat_lit 85, { cls := .type "type", data := Data.cls { name := Str.ofString "Matching", bases := [.type "object"], mro := [.ref 85, .type "object"], ns := 84, qualname := Str.ofString "Matching" }, slots := #[none, none, some (kStr "Matching" 228), some (kStr "Matching" 236), some (.builtin "object.__new__"), some (.bool true)] }) ::
  (nat_lit 95, cob [kStr "own_edits" 315, kStr "own_edits" 316, kStr "/claim/cut.py" 317, kInt 75, kInt 3, kInt 0, kInt 0, kInt 3, .ref 90, .bool true, kInt 181, .ref 91, .none, .ref 92, .ref 93, .ref 94, kInt 325, kInt 75, kStr "/claim/cut.py" 326]) ::
  (nat_lit 96, fobj "own_edits" "own_edits" (stm 12) "markupmill.diff" 313 95) ::
  (nat_lit 102, cob [kStr "inner_tasks" 328, kStr "inner_tasks" 329, kStr "/claim/cut.py" 330, kInt 82, kInt 4, kInt 0, kInt 0, kInt 3, .ref 97, .bool true, kInt 181, .ref 98, .none, .ref 99, .ref 100, .ref 101, kInt 339, kInt 82, kStr "/claim/cut.py" 340]) ::
  (nat_lit 103, fobj "inner_tasks" "inner_tasks" (stm 13) "markupmill.diff" 313 102) ::
  (nat_lit 116, cob [kStr "__init__" 356, kStr "FlatForm.__init__" 357, kStr "/claim/cut.py" 358, kInt 96, kInt 2, kInt 0, kInt 0, kInt 3, .ref 111, .bool true, kInt 181, .ref 112, .none, .ref 113, .ref 114, .ref 115, kInt 361, kInt 96, kStr "/claim/cut.py" 362]) ::
  (nat_lit 117, fobj "__init__" "FlatForm.__init__" (met 15 0) "markupmill.flat_forms" 342 116) ::
  (nat_lit 123, cob [kStr "gather" 364, kStr "FlatForm.gather" 365, kStr "/claim/cut.py" 366, kInt 105, kInt 2, kInt 0, kInt 0, kInt 3, .ref 118, .bool true, kInt 181, .ref 119, .none, .ref 120, .ref 121, .ref 122, kInt 377, kInt 105, kStr "/claim/cut.py" 378]) ::
  (nat_lit 124, fobj "gather" "FlatForm.gather" (met 15 1) "markupmill.flat_forms" 342 123) ::
  (nat_lit 130, cob [kStr "measure" 380, kStr "FlatForm.measure" 381, kStr "/claim/cut.py" 382, kInt 119, kInt 1, kInt 0, kInt 0, kInt 3, .ref 125, .bool true, kInt 181, .ref 126, .none, .ref 127, .ref 128, .ref 129, kInt 386, kInt 119, kStr "/claim/cut.py" 387]) ::
  (nat_lit 131, fobj "measure" "FlatForm.measure" (met 15 2) "markupmill.flat_forms" 342 130) ::
  (nat_lit 137, cob [kStr "top" 389, kStr "FlatForm.top" 390, kStr "/claim/cut.py" 391, kInt 128, kInt 1, kInt 0, kInt 0, kInt 3, .ref 132, .bool true, kInt 181, .ref 133, .none, .ref 134, .ref 135, .ref 136, kInt 393, kInt 128, kStr "/claim/cut.py" 394]) ::
  (nat_lit 138, fobj "top" "FlatForm.top" (met 15 3) "markupmill.flat_forms" 342 137) ::
  (nat_lit 147, dob [ent P "__module__" 351 (kStr "markupmill.flat_forms" 342), ent P "__firstlineno__" 355 (.int 94 354), ent P "__init__" 363 (.ref 117), ent P "gather" 379 (.ref 124), ent P "measure" 388 (.ref 131), ent P "top" 395 (.ref 138), ent P "path" 404 (.ref 145), ent P "__static_attributes__" 410 (.ref 146), ent P "__dict__" 412 (.ref 149), ent P "__weakref__" 414 (.ref 150), ent P "__doc__" 415 (.none)] 4) ::
  (nat_lit 148, { cls := .type "type", data := Data.cls { name := Str.ofString "FlatForm", bases := [.type "object"], mro := [.ref 148, .type "object"], ns := 147, qualname := Str.ofString "FlatForm" }, slots := #[none, none, some (kStr "FlatForm" 344), some (kStr "FlatForm" 352), some (.builtin "object.__new__"), some (.bool true)] }) ::
  (nat_lit 158, cob [kStr "_law_pool" 420, kStr "_law_pool" 421, kStr "/claim/cut.py" 422, kInt 138, kInt 2, kInt 0, kInt 0, kInt 3, .ref 153, .bool true, kInt 181, .ref 154, .none, .ref 155, .ref 156, .ref 157, kInt 428, kInt 138, kStr "/claim/cut.py" 429]) ::
  (nat_lit 159, fobj "_law_pool" "_law_pool" (stm 17) "law_xm0659_01" 418 158) ::
  (nat_lit 165, cob [kStr "_law_take" 431, kStr "_law_take" 432, kStr "/claim/cut.py" 433, kInt 143, kInt 2, kInt 0, kInt 0, kInt 3, .ref 160, .bool true, kInt 181, .ref 161, .none, .ref 162, .ref 163, .ref 164, kInt 437, kInt 143, kStr "/claim/cut.py" 438]) ::
  (nat_lit 166, fobj "_law_take" "_law_take" (stm 18) "law_xm0659_01" 418 165) ::
  (nat_lit 172, cob [kStr "_law_one" 440, kStr "_law_one" 441, kStr "/claim/cut.py" 442, kInt 150, kInt 2, kInt 0, kInt 0, kInt 3, .ref 167, .bool true, kInt 181, .ref 168, .none, .ref 169, .ref 170, .ref 171, kInt 445, kInt 150, kStr "/claim/cut.py" 446]) ::
  (nat_lit 173, fobj "_law_one" "_law_one" (stm 19) "law_xm0659_01" 418 172) ::
  (nat_lit 179, cob [kStr "_law_element" 448, kStr "_law_element" 449, kStr "/claim/cut.py" 450, kInt 152, kInt 3, kInt 0, kInt 0, kInt 3, .ref 174, .bool true, kInt 181, .ref 175, .none, .ref 176, .ref 177, .ref 178, kInt 454, kInt 152, kStr "/claim/cut.py" 455]) ::
  (nat_lit 180, fobj "_law_element" "_law_element" (stm 20) "law_xm0659_01" 418 179) ::
  (nat_lit 186, cob [kStr "_law_child" 457, kStr "_law_child" 458, kStr "/claim/cut.py" 459, kInt 154, kInt 2, kInt 0, kInt 0, kInt 3, .ref 181, .bool true, kInt 181, .ref 182, .none, .ref 183, .ref 184, .ref 185, kInt 462, kInt 154, kStr "/claim/cut.py" 463]) ::
  (nat_lit 187, fobj "_law_child" "_law_child" (stm 21) "law_xm0659_01" 418 186) ::
  (nat_lit 193, cob [kStr "_law_tasks" 465, kStr "_law_tasks" 466, kStr "/claim/cut.py" 467, kInt 156, kInt 3, kInt 0, kInt 0, kInt 3, .ref 188, .bool true, kInt 181, .ref 189, .none, .ref 190, .ref 191, .ref 192, kInt 479, kInt 156, kStr "/claim/cut.py" 480]) ::
  (nat_lit 194, fobj "_law_tasks" "_law_tasks" (stm 22) "law_xm0659_01" 418 193) ::
  (nat_lit 198, cob [kStr "_law_inner_right" 482, kStr "_law_inner_right" 483, kStr "/claim/cut.py" 484, kInt 169, kInt 3, kInt 0, kInt 0, kInt 3, .ref 195, .bool true, kInt 181, .ref 196, .none, .none, .none, .ref 197, kInt 485, kInt 169, kStr "/claim/cut.py" 486]) ::
  (nat_lit 199, fobj "_law_inner_right" "_law_inner_right" (stm 23) "law_xm0659_01" 418 198) ::
  (nat_lit 203, cob [kStr "_law_own_right" 488, kStr "_law_own_right" 489, kStr "/claim/cut.py" 490, kInt 179, kInt 2, kInt 0, kInt 0, kInt 3, .ref 200, .bool true, kInt 181, .ref 201, .none, .none, .none, .ref 202, kInt 491, kInt 179, kStr "/claim/cut.py" 492]) ::
  (nat_lit 204, fobj "_law_own_right" "_law_own_right" (stm 24) "law_xm0659_01" 418 203) ::
  (nat_lit 208, cob [kStr "law" 494, kStr "law" 495, kStr "/claim/cut.py" 496, kInt 194, kInt 1, kInt 0, kInt 0, kInt 3, .ref 205, .bool true, kInt 181, .ref 206, .none, .none, .none, .ref 207, kInt 497, kInt 194, kStr "/claim/cut.py" 498]) ::
  (nat_lit 209, fobj "law" "law" (stm 25) "law_xm0659_01" 418 208) ::
  []
theorem fillK (P : Params) : nsIn (KK P) mainGlobals "int" = some none ∧ PySem.Challenge.rw_xm0659_01.prog = PySem.Challenge.rw_xm0659_01.prog := by
  k_fill
  exact ⟨by k_is, rfl⟩
noncomputable def vw : Program := PySem.W.view PySem.Challenge.pw_xm0659_01 [0, 1, 2, 3, 4, 5, 7, 8, 9, 10, 12, 13, 15, 17, 18, 19, 20, 21, 22, 23, 24, 25]
noncomputable def ats : List Addr := [3, 27, 28, 32, 33, 39, 40, 53, 54, 60, 61, 67, 68, 84, 85, 95, 96, 102, 103, 116, 117, 123, 124, 130, 131, 137, 138, 147, 148, 158, 159, 165, 166, 172, 173, 179, 180, 186, 187, 193, 194, 198, 199, 203, 204, 208, 209]
noncomputable abbrev HK : Hook := kHook KK ats fun _ => rfl
theorem said : PySem.Challenge.rw_xm0659_01.wellSaid = true := (congrFun PySem.W.Fast.te9446332074065402090 _).trans (by kernel_rfl)
theorem left0 : LeftO PySem.Challenge.rw_xm0659_01.row.prog vw [] (fun s => xlAt vw [] s && recOk (RowW.records PySem.Challenge.rw_xm0659_01.row.toRowW) s) (Hook.obs HK) (Hook.val HK) 2678 := fun w => by
  unfold openEnds topFrom
  rw [PySem.W.Fast.te14082659384304107361, PySem.W.Fast.te4187177175401517315, PySem.W.Fast.te14364793385576792824]
  kernel_rfl
theorem chains : (chainsOk vw && opensWell PySem.Challenge.rw_xm0659_01.row.prog && (frees PySem.Challenge.rw_xm0659_01.row.toRowW && PySem.Challenge.rw_xm0659_01.row.within.isEmpty)) = true := by kernel_rfl
theorem hd (walk : ∃ d kwd, defOf vw PySem.Challenge.rw_xm0659_01.row.name = some (d, kwd) ∧ PySem.Challenge.rw_xm0659_01.row.prog.theDef PySem.Challenge.rw_xm0659_01.row.name = some (d.params, d.body, d.scope) ∧ kwWritten? d.params.kwonlyargs d.params.kw_defaults = some kwd ∧
    WalkO vw [] (XL vw []) (Hook.says HK) PySem.Challenge.rw_xm0659_01.row.toRowW d kwd fun f vs => call f vs) : PySem.Challenge.rw_xm0659_01.Holds := by
  obtain ⟨d, kwd, h1, h2, h3, h4⟩ := walk
  refine holds_law said fun said => ?_
  exact holds_open (q := vw) (loose := []) (Xt := fun s => xlAt vw [] s && recOk (RowW.records PySem.Challenge.rw_xm0659_01.row.toRowW) s) (XP := XL vw []) (Yf := Hook.obs HK) (Ya := Hook.val HK) (YP := Hook.says HK) (N := 2678)
    left0 (Hook.of HK) (Hook.keeps HK) (fun s e => xl_of s (Bool.and_eq_true_iff.mp e).1) XL.keeps h1 h2 h3 (fun s e => recFacts_of (Bool.and_eq_true_iff.mp e).2) rfl said chains ⟨rfl, rfl, rfl, rfl, rfl, by decide +kernel⟩ (by w_witness2) h4
end Mu
end
noncomputable section
open PySem PySem.W PySem.Calls PyProof.Rows
set_option Elab.async false
set_option linter.unusedVariables false

namespace Mu

/-- conjunctions of many: one constructor, so small proofs -/
inductive And3 (a1 a2 a3 : Prop) : Prop
  | mk (p1 : a1) (p2 : a2) (p3 : a3)
inductive And4 (a1 a2 a3 a4 : Prop) : Prop
  | mk (p1 : a1) (p2 : a2) (p3 : a3) (p4 : a4)
inductive And5 (a1 a2 a3 a4 a5 : Prop) : Prop
  | mk (p1 : a1) (p2 : a2) (p3 : a3) (p4 : a4) (p5 : a5)
inductive And6 (a1 a2 a3 a4 a5 a6 : Prop) : Prop
  | mk (p1 : a1) (p2 : a2) (p3 : a3) (p4 : a4) (p5 : a5) (p6 : a6)
inductive And7 (a1 a2 a3 a4 a5 a6 a7 : Prop) : Prop
  | mk (p1 : a1) (p2 : a2) (p3 : a3) (p4 : a4) (p5 : a5) (p6 : a6) (p7 : a7)
inductive And8 (a1 a2 a3 a4 a5 a6 a7 a8 : Prop) : Prop
  | mk (p1 : a1) (p2 : a2) (p3 : a3) (p4 : a4) (p5 : a5) (p6 : a6) (p7 : a7) (p8 : a8)
inductive And9 (a1 a2 a3 a4 a5 a6 a7 a8 a9 : Prop) : Prop
  | mk (p1 : a1) (p2 : a2) (p3 : a3) (p4 : a4) (p5 : a5) (p6 : a6) (p7 : a7) (p8 : a8) (p9 : a9)
inductive And10 (a1 a2 a3 a4 a5 a6 a7 a8 a9 a10 : Prop) : Prop
  | mk (p1 : a1) (p2 : a2) (p3 : a3) (p4 : a4) (p5 : a5) (p6 : a6) (p7 : a7) (p8 : a8) (p9 : a9) (p10 : a10)
inductive And11 (a1 a2 a3 a4 a5 a6 a7 a8 a9 a10 a11 : Prop) : Prop
  | mk (p1 : a1) (p2 : a2) (p3 : a3) (p4 : a4) (p5 : a5) (p6 : a6) (p7 : a7) (p8 : a8) (p9 : a9) (p10 : a10) (p11 : a11)
inductive And12 (a1 a2 a3 a4 a5 a6 a7 a8 a9 a10 a11 a12 : Prop) : Prop
  | mk (p1 : a1) (p2 : a2) (p3 : a3) (p4 : a4) (p5 : a5) (p6 : a6) (p7 : a7) (p8 : a8) (p9 : a9) (p10 : a10) (p11 : a11) (p12 : a12)
inductive And13 (a1 a2 a3 a4 a5 a6 a7 a8 a9 a10 a11 a12 a13 : Prop) : Prop
  | mk (p1 : a1) (p2 : a2) (p3 : a3) (p4 : a4) (p5 : a5) (p6 : a6) (p7 : a7) (p8 : a8) (p9 : a9) (p10 : a10) (p11 : a11) (p12 : a12) (p13 : a13)

/-- abstract values: tuples are data; a mutable object is its address -/
inductive AV where
  | none
  | bool (b : Bool)
  | int (i : Int)
  | str (x : Str)
  | tup (l : List AV)
  | ref (a : Addr)

/-- abstract objects -/
inductive AO where
  | list (l : List AV)
  | dictI (es : List (List Int × AV))
  | dictS (es : List (List Str × AV)) (ep : Nat)
  | inst (C dx : Addr)
  | attrs (es : List (Str × AV))

abbrev AH := Addr → Option AO
abbrev AL := Str → Option AV

/-- `X`: the addresses of tuples that are hidden (a zip's own) -/
abbrev Hid := Addr → Prop
mutual
inductive VR (X : Hid) (h : Heap) : Value → AV → Prop
  | none : VR X h .none .none
  | bool (b : Bool) : VR X h (.bool b) (.bool b)
  | int (i : Int) (t : Tok) : VR X h (.int i t) (.int i)
  | str (x : Str) (t : Tok) : VR X h (.str x t) (.str x)
  | tup {a : Addr} {vs : List Value} {n : Nat} {l : List AV} : IsT h a vs.toArray n → ¬ X a → VRs X h vs l → VR X h (.ref a) (.tup l)
  | ref (a : Addr) : VR X h (.ref a) (.ref a)
inductive VRs (X : Hid) (h : Heap) : List Value → List AV → Prop
  | nil : VRs X h [] []
  | cons {v : Value} {vs : List Value} {d : AV} {ds : List AV} : VR X h v d → VRs X h vs ds → VRs X h (v :: vs) (d :: ds)
end

/-- the tuples that are not hidden are kept (and not hidden on the other side) -/
def TK (X : Hid) (h : Heap) (X' : Hid) (h' : Heap) : Prop := ∀ a vs n, ¬ X a → IsT h a vs n → ¬ X' a ∧ IsT h' a vs n
theorem TK.refl (X : Hid) (h : Heap) : TK X h X h := fun _ _ _ x e => ⟨x, e⟩
theorem TK.trans {X X' X'' : Hid} {h h' h'' : Heap} (a : TK X h X' h') (b : TK X' h' X'' h'') : TK X h X'' h'' := fun q vs n x e => let ⟨x', e'⟩ := a q vs n x e; b q vs n x' e'
theorem TK.of {X : Hid} {h h' : Heap} (k : ∀ b o, h.get? b = some o → h'.get? b = some o) : TK X h X h' := fun _ _ _ x e => ⟨x, k _ _ e⟩

mutual
theorem VR.mono {X X' : Hid} {h h' : Heap} (k : TK X h X' h') : ∀ {v : Value} {d : AV}, VR X h v d → VR X' h' v d
  | _, _, .none => .none
  | _, _, .bool b => .bool b
  | _, _, .int i t => .int i t
  | _, _, .str x t => .str x t
  | _, _, .tup hm x r => .tup (k _ _ _ x hm).2 (k _ _ _ x hm).1 (VRs.mono k r)
  | _, _, .ref a => .ref a
theorem VRs.mono {X X' : Hid} {h h' : Heap} (k : TK X h X' h') : ∀ {vs : List Value} {ds : List AV}, VRs X h vs ds → VRs X' h' vs ds
  | _, _, .nil => .nil
  | _, _, .cons h1 r => .cons (VR.mono k h1) (VRs.mono k r)
end

section
variable {X : Hid} {h : Heap} {v : Value} {d : AV} {vs ws : List Value} {ds es : List AV}
theorem VRs.length (r : VRs X h vs ds) : vs.length = ds.length := by
  induction vs generalizing ds with
  | nil => cases r; rfl
  | cons v vs ih =>
    cases r with
    | cons _ r => rw [List.length_cons, List.length_cons, ih r]
theorem VRs.append (r : VRs X h vs ds) (k : VRs X h ws es) : VRs X h (vs ++ ws) (ds ++ es) := by
  induction vs generalizing ds with
  | nil => cases r; exact k
  | cons v vs ih =>
    cases r with
    | cons h1 r => exact .cons h1 (ih r)
def VRInv (X : Hid) (h : Heap) (v : Value) : AV → Prop
  | .none => v = .none
  | .bool b => v = .bool b
  | .int i => ∃ t, v = .int i t
  | .str x => ∃ t, v = .str x t
  | .tup l => ∃ (a : Addr) (ws : List Value) (n : Nat), And4 (v = .ref a) (IsT h a ws.toArray n) (¬ X a) (VRs X h ws l)
  | .ref a => v = .ref a
def VRsInv (X : Hid) (h : Heap) (vs : List Value) : List AV → Prop
  | [] => vs = []
  | d :: ds => ∃ v ws, And3 (vs = v :: ws) (VR X h v d) (VRs X h ws ds)
theorem VR.inv (V : VR X h v d) : VRInv X h v d := by
  cases V with
  | tup e x r => exact ⟨_, _, _, rfl, e, x, r⟩
  | int i t => exact ⟨t, rfl⟩
  | str x t => exact ⟨t, rfl⟩
  | _ => rfl
theorem VRs.inv (V : VRs X h vs ds) : VRsInv X h vs ds := by
  cases V with
  | nil => rfl
  | cons a b => exact ⟨_, _, rfl, a, b⟩
theorem VR.rf {a : Addr} {p : Value → Prop} (V : VR X h v (.ref a)) (q : p (.ref a)) : p v := (V.inv : v = _) ▸ q
theorem VR.rI {i : Int} {p : Value → Prop} (V : VR X h v (.int i)) (q : ∀ t, p (.int i t)) : p v := let ⟨t, e⟩ := V.inv; e ▸ q t
theorem VR.rS {x : Str} {p : Value → Prop} (V : VR X h v (.str x)) (q : ∀ t, p (.str x t)) : p v := let ⟨t, e⟩ := V.inv; e ▸ q t
theorem VR.rB {b : Bool} {p : Value → Prop} (V : VR X h v (.bool b)) (q : p (.bool b)) : p v := (V.inv : v = _) ▸ q
theorem VR.rN {p : Value → Prop} (V : VR X h v .none) (q : p .none) : p v := (V.inv : v = _) ▸ q
theorem VR.rT {l : List AV} {p : Value → Prop} (V : VR X h v (.tup l)) (q : ∀ a (ws : List Value) n, IsT h a ws.toArray n → ¬ X a → VRs X h ws l → p (.ref a)) : p v := by
  obtain ⟨a, ws, n, e, h1, h2, h3⟩ := V.inv
  exact e ▸ q a ws n h1 h2 h3
theorem VRs.r0 {p : List Value → Prop} (r : VRs X h vs []) (q : p []) : p vs := (r.inv : vs = _) ▸ q
theorem VRs.rc {p : List Value → Prop} (r : VRs X h vs (d :: ds)) (q : ∀ v ws, VR X h v d → VRs X h ws ds → p (v :: ws)) : p vs := by
  obtain ⟨v, ws, e, h1, h2⟩ := r.inv
  exact e ▸ q v ws h1 h2
theorem VRs.r1 {p : List Value → Prop} (r : VRs X h vs [d]) (q : ∀ v, VR X h v d → p [v]) : p vs := r.rc fun v _ V s => s.r0 (p := fun ws => p (v :: ws)) (q v V)
theorem VRs.r2 {e : AV} {p : List Value → Prop} (r : VRs X h vs [d, e]) (q : ∀ v w, VR X h v d → VR X h w e → p [v, w]) : p vs := r.rc fun v _ V s => s.r1 (p := fun ws => p (v :: ws)) fun w W => q v w V W
theorem VRs.one (r : VR X h v d) : VRs X h [v] [d] := .cons r .nil
theorem VRs.get (r : VRs X h vs ds) {k : Nat} {d : AV} (hk : ds[k]? = some d) : ∃ v, vs[k]? = some v ∧ VR X h v d := by
  induction vs generalizing ds k with
  | nil => cases r; simp at hk
  | cons v vs ih =>
    cases r with
    | cons h1 r =>
      cases k with
      | zero => simp at hk; subst hk; exact ⟨v, rfl, h1⟩
      | succ k => exact ih r (by simpa using hk)
theorem VRs.get' (r : VRs X h vs ds) {k : Nat} {v : Value} (hk : vs[k]? = some v) : ∃ d, ds[k]? = some d ∧ VR X h v d := by
  induction vs generalizing ds k with
  | nil => simp at hk
  | cons v vs ih =>
    cases r with
    | cons h1 r =>
      cases k with
      | zero => simp at hk; subst hk; exact ⟨_, rfl, h1⟩
      | succ k => exact ih r (by simpa using hk)
theorem VRs.reverse (r : VRs X h vs ds) : VRs X h vs.reverse ds.reverse := by
  induction vs generalizing ds with
  | nil => cases r; exact .nil
  | cons v vs ih =>
    cases r with
    | cons h1 r => rw [List.reverse_cons, List.reverse_cons]; exact (ih r).append (.one h1)
theorem VRs.take (r : VRs X h vs ds) (k : Nat) : VRs X h (vs.take k) (ds.take k) := by
  induction vs generalizing ds k with
  | nil => cases r; simp; exact .nil
  | cons v vs ih =>
    cases r with
    | cons h1 r =>
      cases k with
      | zero => exact .nil
      | succ k => exact .cons h1 (ih r k)
theorem VRs.drop (r : VRs X h vs ds) (k : Nat) : VRs X h (vs.drop k) (ds.drop k) := by
  induction vs generalizing ds k with
  | nil => cases r; simp; exact .nil
  | cons v vs ih =>
    cases r with
    | cons h1 r =>
      cases k with
      | zero => exact .cons h1 r
      | succ k => exact ih r k
theorem VRs.set (r : VRs X h vs ds) (k : Nat) (hv : VR X h v d) : VRs X h (vs.set k v) (ds.set k d) := by
  induction vs generalizing ds k with
  | nil => cases r; simp; exact .nil
  | cons v vs ih =>
    cases r with
    | cons h1 r =>
      cases k with
      | zero => exact .cons hv r
      | succ k => exact .cons h1 (ih r k)
theorem VRs.dropLast (r : VRs X h vs ds) : VRs X h vs.dropLast ds.dropLast := by
  rw [List.dropLast_eq_take, List.dropLast_eq_take, r.length]; exact r.take _
theorem VRs.replicate (n : Nat) (r : VR X h v d) : VRs X h (List.replicate n v) (List.replicate n d) := by
  induction n with
  | zero => exact .nil
  | succ n ih => exact .cons r ih
end

/-- what is fixed for the whole proof -/
structure Cx where
  prog : Program
  w : World
  K : Frag
  h₀ : Heap
  p : Program
  loose : List Str
  mg : Str → Option Value
  mb : Str → Option Value
  X : K.In h₀
  T : TopRead p loose mg mb h₀

abbrev Cx.M (c : Cx) : Model := model c.prog c.w

abbrev kI (c : Cx) : HeapKind c.prog c.w (List Int) := tupleKind (intKind c.prog c.w)
abbrev kS (c : Cx) : HeapKind c.prog c.w (List Str) := tupleKind (strKind c.prog c.w)

/-- the entries of a dict with tuple keys, as values -/
inductive KV (X : Hid) (h : Heap) {κ : Type} (f : κ → AV) : List (κ × Addr × Value) → List (κ × AV) → Prop
  | nil : KV X h f [] []
  | cons {k : κ} {a : Addr} {v : Value} {d : AV} {xs : List (κ × Addr × Value)} {es : List (κ × AV)} : VR X h (.ref a) (f k) → VR X h v d → KV X h f xs es → KV X h f ((k, a, v) :: xs) ((k, d) :: es)

def aI (ks : List Int) : AV := .tup (ks.map .int)
def aS (ks : List Str) : AV := .tup (ks.map .str)

theorem KV.mono {X X' : Hid} {h h' : Heap} {κ : Type} {f : κ → AV} (k : TK X h X' h') : ∀ {xs : List (κ × Addr × Value)} {es : List (κ × AV)}, KV X h f xs es → KV X' h' f xs es
  | _, _, .nil => .nil
  | _, _, .cons a b r => .cons (a.mono k) (b.mono k) (r.mono k)

/-- the entries of an object's own dict -/
inductive AR (X : Hid) (h : Heap) : List DictEntry → List (Str × AV) → Prop
  | nil : AR X h [] []
  | cons {x : Str} {n : Int} {t : Tok} {v : Value} {d : AV} {xs : List DictEntry} {es : List (Str × AV)} : VR X h v d → AR X h xs es → AR X h (⟨n, .str x t, v⟩ :: xs) ((x, d) :: es)
theorem AR.mono {X X' : Hid} {h h' : Heap} (k : TK X h X' h') : ∀ {xs : List DictEntry} {es : List (Str × AV)}, AR X h xs es → AR X' h' xs es
  | _, _, .nil => .nil
  | _, _, .cons b r => .cons (b.mono k) (r.mono k)

def epAt (h : Heap) (a : Addr) (ep : Nat) : Prop := ∀ o es ep', h.get? a = some o → o.data = .dict es ep' → ep' = ep
def OR (c : Cx) (X : Hid) (h : Heap) (a : Addr) : AO → Prop
  | .list l => ∃ vs n, IsL h a (List.toArray vs) n ∧ VRs X h vs l ∧ l.length ≤ 100000
  | .dictI es => ∃ xs, h.DictOfH (kI c) a xs ∧ KV X h aI xs es ∧ es.length ≤ 100000
  | .dictS es ep => ∃ xs, h.DictOfH (kS c) a xs ∧ KV X h aS xs es ∧ es.length ≤ 100000 ∧ epAt h a ep
  | .inst C dx => h.get? a = some (instObj C dx)
  | .attrs es => ∃ xs n, h.get? a = some (dictOf xs n) ∧ AR X h xs es ∧ es.length ≤ 100

theorem tl_ne : Value.type "list" ≠ Value.type "tuple" := by decide
theorem td_ne : Value.type "dict" ≠ Value.type "tuple" := by decide
theorem OR.there {c : Cx} {X : Hid} {h : Heap} {a : Addr} {o : AO} (r : OR c X h a o) : ∃ ob, h.get? a = some ob ∧ ∀ vs n, ob ≠ { cls := .type "tuple", dict := none, data := .seq vs n, slots := #[] } := by
  cases o with
  | list l => obtain ⟨vs, n, e, _⟩ := r; exact ⟨_, e, fun _ _ q => tl_ne (congrArg Obj.cls q)⟩
  | dictI es => obtain ⟨xs, ⟨o, _, _, e, _, d, _⟩, _⟩ := r; exact ⟨_, e, fun _ _ q => by subst q; cases d⟩
  | dictS es ep => obtain ⟨xs, ⟨o, _, _, e, _, d, _⟩, _⟩ := r; exact ⟨_, e, fun _ _ q => by subst q; cases d⟩
  | inst C dx => exact ⟨_, r, fun _ _ q => absurd (congrArg Obj.cls q) (by intro z; cases z)⟩
  | attrs es => obtain ⟨xs, n, e, _⟩ := r; exact ⟨_, e, fun _ _ q => td_ne (congrArg Obj.cls q)⟩

theorem OR.lt {c : Cx} {X : Hid} {h : Heap} {a : Addr} {o : AO} (r : OR c X h a o) : a < h.objs.size := by
  obtain ⟨_, e, _⟩ := r.there; exact Heap.lt_size e

theorem isTupleKey_mono {prog : Program} {w : World} {κ : Type} [DecidableEq κ] {knd : KeyKind prog w κ} {X X' : Hid} {h h' : Heap} {ks : List κ} {a : Addr} {f : κ → AV} (k : TK X h X' h') (x : IsTupleKey knd h ks a) (y : VR X h (.ref a) (.tup (ks.map f))) : IsTupleKey knd h' ks a := by
  obtain ⟨o, items, n, ho, hc, hd, hi⟩ := x
  cases y with
  | tup e nx _ =>
    have := (k _ _ _ nx e).2
    rw [e] at ho
    cases ho
    exact ⟨_, _, _, this, rfl, hd, hi⟩

theorem dictOfH_mono {prog : Program} {w : World} {κ : Type} [DecidableEq κ] {knd : KeyKind prog w κ} {X X' : Hid} {h h' : Heap} {d : Addr} {xs : List (List κ × Addr × Value)} {f : κ → AV} {es : List (List κ × AV)} (k : TK X h X' h')
    (e : ∀ o, h.get? d = some o → h'.get? d = some o) (x : h.DictOfH (tupleKind knd) d xs) (y : KV X h (fun ks => AV.tup (ks.map f)) xs es) : h'.DictOfH (tupleKind knd) d xs := by
  obtain ⟨o, es', ep, h1, h2, h3, h4, h5, h6⟩ := x
  refine ⟨o, es', ep, e _ h1, h2, h3, h4, fun x hx => ?_, h6⟩
  have key : VR X h (.ref x.2.1) (.tup (x.1.map f)) := by
    clear h4 h5 h6 h3
    induction y with
    | nil => cases hx
    | cons a b r ih =>
      rcases List.mem_cons.mp hx with rfl | hx
      · exact a
      · exact ih hx
  exact isTupleKey_mono k (h5 x hx) key

theorem OR.mono {c : Cx} {X X' : Hid} {h h' : Heap} {a : Addr} {o : AO} (k : TK X h X' h') (e : ∀ ob, h.get? a = some ob → h'.get? a = some ob) (r : OR c X h a o) : OR c X' h' a o := by
  cases o with
  | list l => obtain ⟨vs, n, q, x, z⟩ := r; exact ⟨vs, n, e _ q, x.mono k, z⟩
  | dictI es => obtain ⟨xs, q, x, z⟩ := r; exact ⟨xs, dictOfH_mono k e q x, x.mono k, z⟩
  | dictS es ep => obtain ⟨xs, q, x, z, z2⟩ := r; exact ⟨xs, dictOfH_mono k e q x, x.mono k, z, fun o es' ep' e1 e2 => by obtain ⟨o₀, _, _, e0, _⟩ := q; rw [e _ e0] at e1; cases e1; exact z2 _ _ _ e0 e2⟩
  | inst C dx => exact e _ r
  | attrs es => obtain ⟨xs, n, q, x, z⟩ := r; exact ⟨xs, n, e _ q, x.mono k, z⟩

/-- what a judgement must keep: protected objects, hidden tuples -/
structure Pt where
  p : Addr → Option Obj
  x : Hid

/-- the heap: what is protected, what is known of the mutable objects -/
structure HR (c : Cx) (P : Pt) (hp : AH) (h : Heap) : Prop where
  prot : ∀ b o, P.p b = some o → h.get? b = some o
  base : ∀ b o, c.h₀.get? b = some o → P.p b = some o
  objs : ∀ a o, hp a = some o → P.p a = none ∧ OR c P.x h a o
  hid : ∀ a, P.x a → ∃ o, h.get? a = some o
  hi : ∀ a o, hp a = some o → mainGlobals < a

theorem HR.keep {c : Cx} {P : Pt} {hp : AH} {h : Heap} (H : HR c P hp h) : ∀ b o, c.h₀.get? b = some o → h.get? b = some o := fun b o e => H.prot b o (H.base b o e)
theorem HR.X {c : Cx} {P : Pt} {hp : AH} {h : Heap} (H : HR c P hp h) : c.K.In h := c.X.keeps H.keep

structure St where
  loc : AL
  hp : AH

/-- the frame: locals and cells; `ow` are the cells that it may write -/
structure FR (P : Pt) (ow : List Addr) (env : Env) (st : St) (h : Heap) : Prop where
  ns : ∃ m, h.Ns env.locals m ∧ ∀ x av, st.loc x = some av → env.kindOf x = some .local → ∃ v, m x = some v ∧ VR P.x h v av
  cl : ∀ x av, st.loc x = some av → env.kindOf x = some .cell → ∃ cx v, env.cells.lookup x = some cx ∧ h.IsCell cx (some v) ∧ VR P.x h v av
  own : P.p env.locals = none ∧ st.hp env.locals = none
  ows : ∀ a ∈ ow, P.p a = none ∧ st.hp a = none ∧ ∃ v, h.IsCell a v
  cls : ∀ x cx, env.cells.lookup x = some cx → ∃ v, h.IsCell cx v

/-- the environment is a function's (or an inlined comprehension's) -/
structure EnvOk (env : Env) : Prop where
  kind : env.scope.kind = .function
  glob : env.globals = mainGlobals
  bi : env.builtins = builtinsNs

def Room (N : Nat) (A : Around) : Prop := A.handled = none ∧ A.depth + 2 * N + 2 ≤ 900 ∧ A.units + 20 * N + 200 ≤ 9000

theorem Room.le {N N' : Nat} {A : Around} (r : Room N A) (h : N' ≤ N) : Room N' A := ⟨r.1, by have := r.2.1; omega, by have := r.2.2; omega⟩
theorem Room.units {N : Nat} {A : Around} (r : Room N A) : A.units + 100 < cLine := by have := r.2.2; rw [cLine_is]; omega

abbrev NoE : Value → Shared → Prop := fun _ _ => False

def Ext (s s' : Shared) : Prop := ∃ h tk, s' = { s with heap := h, toks := tk }
theorem Ext.refl (s : Shared) : Ext s s := ⟨s.heap, s.toks, rfl⟩
theorem Ext.trans {s s' s'' : Shared} (a : Ext s s') (b : Ext s' s'') : Ext s s'' := by
  obtain ⟨h, t, rfl⟩ := a; obtain ⟨h', t', rfl⟩ := b; exact ⟨h', t', rfl⟩
theorem Ext.mk' {s : Shared} (h : Heap) (tk : Nat) : Ext s { s with heap := h, toks := tk } := ⟨h, tk, rfl⟩

inductive AF where
  | next
  | ret (v : AV)

inductive PEv (c : Cx) (P : Pt) (ow : List Addr) (env : Env) (s : Shared) (k : AV → St → Prop) (v : Value) (s' : Shared) : Prop
  | mk (av : AV) (st' : St) (h1 : HR c P st'.hp s'.heap) (h2 : FR P ow env st' s'.heap) (h3 : VR P.x s'.heap v av) (h4 : Ext s s') (h5 : k av st')
def PFl (X : Hid) (h : Heap) (f : Flow) (af : AF) : Prop := match f with | .next => af = .next | .ret v => ∃ av, af = .ret av ∧ VR X h v av | _ => False
inductive PEx (c : Cx) (P : Pt) (ow : List Addr) (env : Env) (s : Shared) (k : AF → St → Prop) (f : Flow) (s' : Shared) : Prop
  | mk (af : AF) (st' : St) (h1 : HR c P st'.hp s'.heap) (h2 : FR P ow env st' s'.heap) (h3 : PFl P.x s'.heap f af) (h4 : Ext s s') (h5 : k af st')
inductive PTs (c : Cx) (P : Pt) (ow : List Addr) (env : Env) (s : Shared) (k : Bool → St → Prop) (b : Bool) (s' : Shared) : Prop
  | mk (st' : St) (h1 : HR c P st'.hp s'.heap) (h2 : FR P ow env st' s'.heap) (h4 : Ext s s') (h5 : k b st')
inductive PUn (c : Cx) (P : Pt) (ow : List Addr) (env : Env) (s : Shared) (k : St → Prop) (u : Unit) (s' : Shared) : Prop
  | mk (st' : St) (h1 : HR c P st'.hp s'.heap) (h2 : FR P ow env st' s'.heap) (h4 : Ext s s') (h5 : k st')
inductive PEvs (c : Cx) (P : Pt) (ow : List Addr) (env : Env) (s : Shared) (k : List AV → St → Prop) (vs : List Value) (s' : Shared) : Prop
  | mk (avs : List AV) (st' : St) (h1 : HR c P st'.hp s'.heap) (h2 : FR P ow env st' s'.heap) (h3 : VRs P.x s'.heap vs avs) (h4 : Ext s s') (h5 : k avs st')
inductive PCal (c : Cx) (P : Pt) (s : Shared) (k : AV → AH → Prop) (v : Value) (s' : Shared) : Prop
  | mk (av : AV) (hp' : AH) (h1 : HR c P hp' s'.heap) (h3 : VR P.x s'.heap v av) (h4 : Ext s s') (h5 : k av hp')

section
variable {c : Cx} {P : Pt} {ow : List Addr} {env : Env} {s s₁ s' : Shared}
theorem PEv.ext {k : AV → St → Prop} {v : Value} (E : Ext s s₁) : PEv c P ow env s₁ k v s' → PEv c P ow env s k v s' := fun ⟨a, t, h1, h2, h3, h4, h5⟩ => ⟨a, t, h1, h2, h3, E.trans h4, h5⟩
theorem PEx.ext {k : AF → St → Prop} {v : Flow} (E : Ext s s₁) : PEx c P ow env s₁ k v s' → PEx c P ow env s k v s' := fun ⟨a, t, h1, h2, h3, h4, h5⟩ => ⟨a, t, h1, h2, h3, E.trans h4, h5⟩
theorem PTs.ext {k : Bool → St → Prop} {v : Bool} (E : Ext s s₁) : PTs c P ow env s₁ k v s' → PTs c P ow env s k v s' := fun ⟨t, h1, h2, h4, h5⟩ => ⟨t, h1, h2, E.trans h4, h5⟩
theorem PUn.ext {k : St → Prop} {v : Unit} (E : Ext s s₁) : PUn c P ow env s₁ k v s' → PUn c P ow env s k v s' := fun ⟨t, h1, h2, h4, h5⟩ => ⟨t, h1, h2, E.trans h4, h5⟩
theorem PEvs.ext {k : List AV → St → Prop} {v : List Value} (E : Ext s s₁) : PEvs c P ow env s₁ k v s' → PEvs c P ow env s k v s' := fun ⟨a, t, h1, h2, h3, h4, h5⟩ => ⟨a, t, h1, h2, h3, E.trans h4, h5⟩
theorem PCal.ext {k : AV → AH → Prop} {v : Value} (E : Ext s s₁) : PCal c P s₁ k v s' → PCal c P s k v s' := fun ⟨a, t, h1, h3, h4, h5⟩ => ⟨a, t, h1, h3, E.trans h4, h5⟩
end

/-- an expression's tree -/
def Ev (c : Cx) (N : Nat) (ow : List Addr) (env : Env) (t : Sem Value) (k : AV → St → Prop) (st : St) : Prop :=
  ∀ A P s, Room N A → HR c P st.hp s.heap → FR P ow env st s.heap → wpAny c.M A t (PEv c P ow env s k) NoE s
/-- a statement's tree -/
def Ex (c : Cx) (N : Nat) (ow : List Addr) (env : Env) (t : Sem Flow) (k : AF → St → Prop) (st : St) : Prop :=
  ∀ A P s, Room N A → HR c P st.hp s.heap → FR P ow env st s.heap → wpAny c.M A t (PEx c P ow env s k) NoE s
/-- a test's tree -/
def Tst (c : Cx) (N : Nat) (ow : List Addr) (env : Env) (t : Sem Bool) (k : Bool → St → Prop) (st : St) : Prop :=
  ∀ A P s, Room N A → HR c P st.hp s.heap → FR P ow env st s.heap → wpAny c.M A t (PTs c P ow env s k) NoE s
/-- a unit's tree (a store) -/
def Un (c : Cx) (N : Nat) (ow : List Addr) (env : Env) (t : Sem Unit) (k : St → Prop) (st : St) : Prop :=
  ∀ A P s, Room N A → HR c P st.hp s.heap → FR P ow env st s.heap → wpAny c.M A t (PUn c P ow env s k) NoE s
/-- a list of values -/
def Evs (c : Cx) (N : Nat) (ow : List Addr) (env : Env) (t : Sem (List Value)) (k : List AV → St → Prop) (st : St) : Prop :=
  ∀ A P s, Room N A → HR c P st.hp s.heap → FR P ow env st s.heap → wpAny c.M A t (PEvs c P ow env s k) NoE s
/-- a tree over values that are told -/
def Op1 (c : Cx) (N : Nat) (ow : List Addr) (env : Env) (t : Value → Sem Value) (a : AV) (k : AV → St → Prop) (st : St) : Prop :=
  ∀ A P s v, Room N A → HR c P st.hp s.heap → FR P ow env st s.heap → VR P.x s.heap v a → wpAny c.M A (t v) (PEv c P ow env s k) NoE s
def Op2 (c : Cx) (N : Nat) (ow : List Addr) (env : Env) (t : Value → Value → Sem Value) (a b : AV) (k : AV → St → Prop) (st : St) : Prop :=
  ∀ A P s v u, Room N A → HR c P st.hp s.heap → FR P ow env st s.heap → VR P.x s.heap v a → VR P.x s.heap u b → wpAny c.M A (t v u) (PEv c P ow env s k) NoE s
def OpL (c : Cx) (N : Nat) (ow : List Addr) (env : Env) (t : List Value → Sem Value) (as : List AV) (k : AV → St → Prop) (st : St) : Prop :=
  ∀ A P s vs, Room N A → HR c P st.hp s.heap → FR P ow env st s.heap → VRs P.x s.heap vs as → wpAny c.M A (t vs) (PEv c P ow env s k) NoE s
def Tr1 (c : Cx) (N : Nat) (ow : List Addr) (env : Env) (t : Value → Sem Bool) (a : AV) (k : Bool → St → Prop) (st : St) : Prop :=
  ∀ A P s v, Room N A → HR c P st.hp s.heap → FR P ow env st s.heap → VR P.x s.heap v a → wpAny c.M A (t v) (PTs c P ow env s k) NoE s
def Un1 (c : Cx) (N : Nat) (ow : List Addr) (env : Env) (t : Value → Sem Unit) (a : AV) (k : St → Prop) (st : St) : Prop :=
  ∀ A P s v, Room N A → HR c P st.hp s.heap → FR P ow env st s.heap → VR P.x s.heap v a → wpAny c.M A (t v) (PUn c P ow env s k) NoE s
/-- a call's contract: what it makes of the heap alone -/
def Cal (c : Cx) (N : Nat) (f : Value) (args : List AV) (k : AV → AH → Prop) (hp : AH) : Prop :=
  ∀ A P s vs, Room N A → HR c P hp s.heap → VRs P.x s.heap vs args → wpAny c.M A (call f vs) (PCal c P s k) NoE s

/-- protect all that stands outside the known objects and the frame -/
def pAll (s : Shared) (hp : AH) (b : Addr) : Option Obj := match hp b with
  | none => s.heap.get? b
  | some _ => none
open Classical in
noncomputable def pFr (s : Shared) (hp : AH) (L : Addr) (ow : List Addr) (b : Addr) : Option Obj := if b = L ∨ b ∈ ow then none else pAll s hp b
def PAll (P : Pt) (s : Shared) (hp : AH) : Pt := ⟨pAll s hp, P.x⟩
noncomputable def PFr (P : Pt) (s : Shared) (hp : AH) (L : Addr) (ow : List Addr) : Pt := ⟨pFr s hp L ow, P.x⟩

theorem HR.none_of {c : Cx} {P : Pt} {hp : AH} {h : Heap} (H : HR c P hp h) {b : Addr} {o : Obj} (e : P.p b = some o) : hp b = none := by
  cases q : hp b with
  | none => rfl
  | some a => rw [(H.objs b a q).1] at e; cases e

theorem HR.all {c : Cx} {P : Pt} {hp : AH} {s : Shared} (H : HR c P hp s.heap) : HR c (PAll P s hp) hp s.heap where
  prot := fun b o e => by
    simp only [PAll, pAll] at e
    split at e
    · exact e
    · cases e
  base := fun b o e => by
    have h1 := H.base b o e
    simp only [PAll, pAll]
    rw [H.none_of h1]
    exact H.prot b o h1
  objs := fun a o e => ⟨by simp only [PAll, pAll]; rw [e], (H.objs a o e).2⟩
  hid := H.hid
  hi := H.hi

theorem HR.back {c : Cx} {P : Pt} {hp hp' : AH} {s : Shared} {h' : Heap} (H : HR c P hp s.heap) (H' : HR c (PAll P s hp) hp' h') : HR c P hp' h' where
  prot := fun b o e => H'.prot b o (by simp only [PAll, pAll]; rw [H.none_of e]; exact H.prot b o e)
  base := H.base
  objs := fun a o e => by
    refine ⟨?_, (H'.objs a o e).2⟩
    have h1 := (H'.objs a o e).1
    cases q : P.p a with
    | none => rfl
    | some ob =>
      simp only [PAll, pAll, H.none_of q, H.prot a ob q] at h1
      cases h1
  hid := H'.hid
  hi := H'.hi

theorem HR.allF {c : Cx} {P : Pt} {hp : AH} {s : Shared} {L : Addr} {ow : List Addr} (H : HR c P hp s.heap) (hL : P.p L = none) (ho : ∀ a ∈ ow, P.p a = none) : HR c (PFr P s hp L ow) hp s.heap where
  prot := fun b o e => by
    simp only [PFr, pFr] at e
    split at e
    · cases e
    · exact H.all.prot b o e
  base := fun b o e => by
    have h1 := H.base b o e
    simp only [PFr, pFr]
    rw [if_neg]
    · exact H.all.base b o e
    · rintro (rfl | hb)
      · rw [hL] at h1; cases h1
      · rw [ho _ hb] at h1; cases h1
  objs := fun a o e => ⟨by simp only [PFr, pFr]; split; rfl; exact (H.all.objs a o e).1, (H.objs a o e).2⟩
  hid := H.hid
  hi := H.hi

theorem HR.backF {c : Cx} {P : Pt} {hp hp' : AH} {s : Shared} {h' : Heap} {L : Addr} {ow : List Addr} (H : HR c P hp s.heap) (hL : P.p L = none) (ho : ∀ a ∈ ow, P.p a = none) (H' : HR c (PFr P s hp L ow) hp' h') : HR c P hp' h' where
  prot := fun b o e => H'.prot b o (by
    simp only [PFr, pFr]
    rw [if_neg]
    · unfold pAll; rw [H.none_of e]; exact H.prot b o e
    · rintro (rfl | hb)
      · rw [hL] at e; cases e
      · rw [ho _ hb] at e; cases e)
  base := H.base
  objs := fun a o e => by
    refine ⟨?_, (H'.objs a o e).2⟩
    have h1 := (H'.objs a o e).1
    cases q : P.p a with
    | none => rfl
    | some ob =>
      exfalso
      simp only [PFr, pFr] at h1
      rw [if_neg] at h1
      · simp only [pAll, H.none_of q, H.prot a ob q] at h1
        cases h1
      · rintro (rfl | hb)
        · rw [hL] at q; cases q
        · rw [ho _ hb] at q; cases q
  hid := H'.hid
  hi := H'.hi

theorem FR.pf {P : Pt} {ow : List Addr} {env : Env} {st : St} {s : Shared} (F : FR P ow env st s.heap) : FR (PFr P s st.hp env.locals ow) ow env st s.heap where
  ns := F.ns
  cl := F.cl
  own := ⟨by simp [PFr, pFr], F.own.2⟩
  ows := fun a ha => ⟨by simp [PFr, pFr, ha], (F.ows a ha).2⟩
  cls := F.cls

theorem FR.pb {P P' : Pt} {ow : List Addr} {env : Env} {st st' : St} {h h' : Heap} (F : FR P ow env st h) (F' : FR P' ow env st' h') (hx : P'.x = P.x) : FR P ow env st' h' where
  ns := hx ▸ F'.ns
  cl := hx ▸ F'.cl
  own := ⟨F.own.1, F'.own.2⟩
  ows := fun a ha => ⟨(F.ows a ha).1, (F'.ows a ha).2⟩
  cls := F'.cls

/-- all that stands outside is kept -/
def KeepsF (s : Shared) (hp : AH) (L : Addr) (ow : List Addr) (h' : Heap) : Prop := ∀ b o, s.heap.get? b = some o → hp b = none → b ≠ L → b ∉ ow → h'.get? b = some o

theorem HR.keepsF {c : Cx} {P : Pt} {hp hp' : AH} {s : Shared} {h' : Heap} {L : Addr} {ow : List Addr} (H' : HR c (PFr P s hp L ow) hp' h') : KeepsF s hp L ow h' := fun b o e hb hL ho =>
  H'.prot b o (by simp only [PFr, pFr]; rw [if_neg (by rintro (q | q); exact hL q; exact ho q)]; unfold pAll; rw [hb]; exact e)

theorem tk_of {c : Cx} {P : Pt} {ow : List Addr} {env : Env} {st : St} {s : Shared} {h' : Heap} (H : HR c P st.hp s.heap) (F : FR P ow env st s.heap) (k : KeepsF s st.hp env.locals ow h') : TK P.x s.heap P.x h' := fun a vs n x e => by
  refine ⟨x, k a _ e ?_ ?_ ?_⟩
  · cases q : st.hp a with
    | none => rfl
    | some o =>
      obtain ⟨ob, e2, e3⟩ := (H.objs a o q).2.there
      rw [e] at e2
      cases e2
      exact absurd rfl (e3 _ _)
  · rintro rfl
    obtain ⟨m, ⟨o, es, ep, e1, e2, _⟩, _⟩ := F.ns
    rw [e] at e1; cases e1; cases e2
  · intro ha
    obtain ⟨_, _, v, ⟨o, e1, e2⟩⟩ := F.ows a ha
    rw [e] at e1; cases e1; cases e2

theorem tk_all {c : Cx} {P : Pt} {hp hp' : AH} {s : Shared} {h' : Heap} (H : HR c P hp s.heap) (H' : HR c (PAll P s hp) hp' h') : TK P.x s.heap P.x h' := fun a vs n x e => by
  refine ⟨x, H'.prot a _ ?_⟩
  simp only [PAll, pAll]
  cases q : hp a with
  | none => exact e
  | some o =>
    obtain ⟨ob, e2, e3⟩ := (H.objs a o q).2.there
    rw [e] at e2
    cases e2
    exact absurd rfl (e3 _ _)

section
variable {c : Cx} {N : Nat} {ow : List Addr} {env : Env} {st : St}

variable {A : Around} {P : Pt} {s : Shared}
theorem weakE {α : Type} {t : Sem α} {Q : α → Shared → Prop} {E : Value → Shared → Prop} {M : Model} (h : wpAny M A t Q NoE s) : wpAny M A t Q E s := wpAny_mono h (fun _ _ x => x) fun _ _ x => x.elim
theorem Ev.strong {t : Sem Value} {k : AV → St → Prop} (h : Ev c N ow env t k st) (R : Room N A) (H : HR c P st.hp s.heap) (F : FR P ow env st s.heap) :
    wpAny c.M A t (fun v s' => PEv c P ow env s k v s' ∧ KeepsF s st.hp env.locals ow s'.heap ∧ TK P.x s.heap P.x s'.heap) NoE s :=
  wpAny_mono (h A _ s R (H.allF F.own.1 fun a ha => (F.ows a ha).1) F.pf) (fun v s' ⟨av, st', H', F', V, E, q⟩ =>
    ⟨⟨av, st', H.backF F.own.1 (fun a ha => (F.ows a ha).1) H', F.pb F' rfl, V, E, q⟩, H'.keepsF, tk_of H F H'.keepsF⟩) fun _ _ x => x
theorem Evs.strong {t : Sem (List Value)} {k : List AV → St → Prop} (h : Evs c N ow env t k st) (R : Room N A) (H : HR c P st.hp s.heap) (F : FR P ow env st s.heap) :
    wpAny c.M A t (fun v s' => PEvs c P ow env s k v s' ∧ KeepsF s st.hp env.locals ow s'.heap ∧ TK P.x s.heap P.x s'.heap) NoE s :=
  wpAny_mono (h A _ s R (H.allF F.own.1 fun a ha => (F.ows a ha).1) F.pf) (fun v s' ⟨av, st', H', F', V, E, q⟩ =>
    ⟨⟨av, st', H.backF F.own.1 (fun a ha => (F.ows a ha).1) H', F.pb F' rfl, V, E, q⟩, H'.keepsF, tk_of H F H'.keepsF⟩) fun _ _ x => x
theorem Tst.strong {t : Sem Bool} {k : Bool → St → Prop} (h : Tst c N ow env t k st) (R : Room N A) (H : HR c P st.hp s.heap) (F : FR P ow env st s.heap) :
    wpAny c.M A t (fun v s' => PTs c P ow env s k v s' ∧ KeepsF s st.hp env.locals ow s'.heap ∧ TK P.x s.heap P.x s'.heap) NoE s :=
  wpAny_mono (h A _ s R (H.allF F.own.1 fun a ha => (F.ows a ha).1) F.pf) (fun v s' ⟨st', H', F', E, q⟩ =>
    ⟨⟨st', H.backF F.own.1 (fun a ha => (F.ows a ha).1) H', F.pb F' rfl, E, q⟩, H'.keepsF, tk_of H F H'.keepsF⟩) fun _ _ x => x
theorem Un.strong {t : Sem Unit} {k : St → Prop} (h : Un c N ow env t k st) (R : Room N A) (H : HR c P st.hp s.heap) (F : FR P ow env st s.heap) :
    wpAny c.M A t (fun v s' => PUn c P ow env s k v s' ∧ KeepsF s st.hp env.locals ow s'.heap ∧ TK P.x s.heap P.x s'.heap) NoE s :=
  wpAny_mono (h A _ s R (H.allF F.own.1 fun a ha => (F.ows a ha).1) F.pf) (fun v s' ⟨st', H', F', E, q⟩ =>
    ⟨⟨st', H.backF F.own.1 (fun a ha => (F.ows a ha).1) H', F.pb F' rfl, E, q⟩, H'.keepsF, tk_of H F H'.keepsF⟩) fun _ _ x => x
theorem Ex.strong {t : Sem Flow} {k : AF → St → Prop} (h : Ex c N ow env t k st) (R : Room N A) (H : HR c P st.hp s.heap) (F : FR P ow env st s.heap) :
    wpAny c.M A t (fun f s' => PEx c P ow env s k f s' ∧ KeepsF s st.hp env.locals ow s'.heap ∧ TK P.x s.heap P.x s'.heap) NoE s :=
  wpAny_mono (h A _ s R (H.allF F.own.1 fun a ha => (F.ows a ha).1) F.pf) (fun v s' ⟨af, st', H', F', V, E, q⟩ =>
    ⟨⟨af, st', H.backF F.own.1 (fun a ha => (F.ows a ha).1) H', F.pb F' rfl, V, E, q⟩, H'.keepsF, tk_of H F H'.keepsF⟩) fun _ _ x => x
theorem Cal.strong {f : Value} {args : List AV} {k : AV → AH → Prop} {hp : AH} (h : Cal c N f args k hp) {vs : List Value} (R : Room N A) (H : HR c P hp s.heap) (V : VRs P.x s.heap vs args) :
    wpAny c.M A (call f vs) (fun v s' => PCal c P s (fun av hp' => k av hp' ∧ HR c (PAll P s hp) hp' s'.heap) v s' ∧ (∀ b o, s.heap.get? b = some o → hp b = none → s'.heap.get? b = some o) ∧ TK P.x s.heap P.x s'.heap) NoE s :=
  wpAny_mono (h A _ s vs R H.all V) (fun v s' ⟨av, hp', H', V', E, q⟩ =>
    ⟨⟨av, hp', H.back H', V', E, q, H'⟩, fun b o e hb => H'.prot b o (by simp only [PAll, pAll]; rw [hb]; exact e), tk_all H H'⟩) fun _ _ x => x

/-- run a tree, then go on -/
theorem Ev.then {t : Sem Value} {k : AV → St → Prop} {Q : Value → Shared → Prop} {E : Value → Shared → Prop} (h : Ev c N ow env t k st) (R : Room N A) (H : HR c P st.hp s.heap) (F : FR P ow env st s.heap)
    (go : ∀ v s' av st', HR c P st'.hp s'.heap → FR P ow env st' s'.heap → VR P.x s'.heap v av → Ext s s' → k av st' → TK P.x s.heap P.x s'.heap → KeepsF s st.hp env.locals ow s'.heap → Q v s') : wpAny c.M A t Q E s :=
  wpAny_mono (h.strong R H F) (fun v s' ⟨⟨av, st', h1, h2, h3, h4, h5⟩, h6, h7⟩ => go v s' av st' h1 h2 h3 h4 h5 h7 h6) fun _ _ x => x.elim
theorem Evs.then {t : Sem (List Value)} {k : List AV → St → Prop} {Q : List Value → Shared → Prop} {E : Value → Shared → Prop} (h : Evs c N ow env t k st) (R : Room N A) (H : HR c P st.hp s.heap) (F : FR P ow env st s.heap)
    (go : ∀ v s' av st', HR c P st'.hp s'.heap → FR P ow env st' s'.heap → VRs P.x s'.heap v av → Ext s s' → k av st' → TK P.x s.heap P.x s'.heap → KeepsF s st.hp env.locals ow s'.heap → Q v s') : wpAny c.M A t Q E s :=
  wpAny_mono (h.strong R H F) (fun v s' ⟨⟨av, st', h1, h2, h3, h4, h5⟩, h6, h7⟩ => go v s' av st' h1 h2 h3 h4 h5 h7 h6) fun _ _ x => x.elim
theorem Tst.then {t : Sem Bool} {k : Bool → St → Prop} {Q : Bool → Shared → Prop} {E : Value → Shared → Prop} (h : Tst c N ow env t k st) (R : Room N A) (H : HR c P st.hp s.heap) (F : FR P ow env st s.heap)
    (go : ∀ v s' st', HR c P st'.hp s'.heap → FR P ow env st' s'.heap → Ext s s' → k v st' → TK P.x s.heap P.x s'.heap → KeepsF s st.hp env.locals ow s'.heap → Q v s') : wpAny c.M A t Q E s :=
  wpAny_mono (h.strong R H F) (fun v s' ⟨⟨st', h1, h2, h4, h5⟩, h6, h7⟩ => go v s' st' h1 h2 h4 h5 h7 h6) fun _ _ x => x.elim
theorem Un.then {t : Sem Unit} {k : St → Prop} {Q : Unit → Shared → Prop} {E : Value → Shared → Prop} (h : Un c N ow env t k st) (R : Room N A) (H : HR c P st.hp s.heap) (F : FR P ow env st s.heap)
    (go : ∀ v s' st', HR c P st'.hp s'.heap → FR P ow env st' s'.heap → Ext s s' → k st' → TK P.x s.heap P.x s'.heap → KeepsF s st.hp env.locals ow s'.heap → Q v s') : wpAny c.M A t Q E s :=
  wpAny_mono (h.strong R H F) (fun v s' ⟨⟨st', h1, h2, h4, h5⟩, h6, h7⟩ => go v s' st' h1 h2 h4 h5 h7 h6) fun _ _ x => x.elim
theorem Ex.then {t : Sem Flow} {k : AF → St → Prop} {Q : Flow → Shared → Prop} {E : Value → Shared → Prop} (h : Ex c N ow env t k st) (R : Room N A) (H : HR c P st.hp s.heap) (F : FR P ow env st s.heap)
    (go : ∀ f s' af st', HR c P st'.hp s'.heap → FR P ow env st' s'.heap → PFl P.x s'.heap f af → Ext s s' → k af st' → TK P.x s.heap P.x s'.heap → KeepsF s st.hp env.locals ow s'.heap → Q f s') : wpAny c.M A t Q E s :=
  wpAny_mono (h.strong R H F) (fun v s' ⟨⟨av, st', h1, h2, h3, h4, h5⟩, h6, h7⟩ => go v s' av st' h1 h2 h3 h4 h5 h7 h6) fun _ _ x => x.elim

theorem Ev.mono {t : Sem Value} {k k' : AV → St → Prop} (h : Ev c N ow env t k st) (q : ∀ a st', k a st' → k' a st') : Ev c N ow env t k' st := fun A P s R H F =>
  wpAny_mono (h A P s R H F) (fun _ _ ⟨av, st', h1, h2, h3, h4, h5⟩ => ⟨av, st', h1, h2, h3, h4, q _ _ h5⟩) fun _ _ x => x
theorem Ex.mono {t : Sem Flow} {k k' : AF → St → Prop} (h : Ex c N ow env t k st) (q : ∀ a st', k a st' → k' a st') : Ex c N ow env t k' st := fun A P s R H F =>
  wpAny_mono (h A P s R H F) (fun _ _ ⟨av, st', h1, h2, h3, h4, h5⟩ => ⟨av, st', h1, h2, h3, h4, q _ _ h5⟩) fun _ _ x => x
theorem Cal.mono {f : Value} {args : List AV} {k k' : AV → AH → Prop} {hp : AH} (h : Cal c N f args k hp) (q : ∀ a hp', k a hp' → k' a hp') : Cal c N f args k' hp := fun A P s vs R H V =>
  wpAny_mono (h A P s vs R H V) (fun _ _ ⟨av, st', h1, h3, h4, h5⟩ => ⟨av, st', h1, h3, h4, q _ _ h5⟩) fun _ _ x => x
end

end Mu
end
noncomputable section
open PySem PySem.W PySem.Calls PyProof.Rows
set_option Elab.async false
set_option linter.unusedVariables false

namespace Mu
section
variable {c : Cx} {N : Nat} {ow : List Addr} {env : Env} {st : St}

theorem Ext.toks (s : Shared) (n : Nat) : Ext s { s with toks := n } := ⟨s.heap, n, rfl⟩

-- constants
theorem Ev_int {i : Int} {a pos} {k : AV → St → Prop} (h : k (.int i) st) : Ev c N ow env (eval (.Constant (.int i) a pos) env) k st := fun A P s R H F =>
  wpAny_Constant_int ⟨_, st, H, F, .int _ _, .toks _ _, h⟩
theorem Ev_str {x : Str} {a pos} {k : AV → St → Prop} (h : k (.str x) st) : Ev c N ow env (eval (.Constant (.str x) a pos) env) k st := fun A P s R H F =>
  wpAny_Constant_str ⟨_, st, H, F, .str _ _, .toks _ _, h⟩
theorem Ev_none {a pos} {k : AV → St → Prop} (h : k .none st) : Ev c N ow env (eval (.Constant .none a pos) env) k st := fun A P s R H F =>
  wpAny_Constant_none ⟨_, st, H, F, .none, .refl _, h⟩
theorem Ev_bool {b : Bool} {a pos} {k : AV → St → Prop} (h : k (.bool b) st) : Ev c N ow env (eval (.Constant (.bool b) a pos) env) k st := fun A P s R H F =>
  wpAny_Constant_bool ⟨_, st, H, F, .bool _, .refl _, h⟩

-- names
theorem Ev_loc {x : Str} {av : AV} {pos} {k : AV → St → Prop} (ok : EnvOk env) (hl : env.kindOf x = some .local) (hv : st.loc x = some av) (h : k av st) (hd : (x == ("__debug__" : Str)) = false := by decide) :
    Ev c N ow env (eval (.Name x pos) env) k st := fun A P s R H F => by
  obtain ⟨m, hn, hm⟩ := F.ns
  obtain ⟨v, e, V⟩ := hm x av hv hl
  exact wpAny_Name (wpAny_loadName_local ok.kind hl hn e ⟨_, st, H, F, V, .refl _, h⟩) hd
theorem Ev_cell {x : Str} {av : AV} {pos} {k : AV → St → Prop} (ok : EnvOk env) (hl : env.kindOf x = some .cell) (hv : st.loc x = some av) (h : k av st) (hd : (x == ("__debug__" : Str)) = false := by decide) :
    Ev c N ow env (eval (.Name x pos) env) k st := fun A P s R H F => by
  obtain ⟨cx, v, e, I, V⟩ := F.cl x av hv hl
  exact wpAny_Name (wpAny_loadName_cell ok.kind hl e I ⟨_, st, H, F, V, .refl _, h⟩) hd
theorem wp_glob {x : Str} {v : Value} {pos} {A : Around} {s : Shared} {E : Value → Shared → Prop} {Q : Value → Shared → Prop} (ok : EnvOk env) (hl : env.kindOf x = some .globalImplicit) (hg : nsIn c.K mainGlobals x = some (some v))
    (k : ∀ b o, c.h₀.get? b = some o → s.heap.get? b = some o) (h : Q v s) (hd : (x == ("__debug__" : Str)) = false := by decide) : wpAny c.M A (eval (.Name x pos) env) Q E s :=
  Name_function_global ok.kind hl (loadGlobal_global (by rw [ok.glob]; exact c.T.g.keeps k) (mg_of c.X c.T.g hg) h) hd
theorem wp_builtin {x : Str} {v : Value} {pos} {A : Around} {s : Shared} {E : Value → Shared → Prop} {Q : Value → Shared → Prop} (ok : EnvOk env) (hl : env.kindOf x = some .globalImplicit) (hg : nsIn c.K mainGlobals x = some none)
    (hb : bootBuiltins x = some v) (k : ∀ b o, c.h₀.get? b = some o → s.heap.get? b = some o) (h : Q v s) (hn : x ≠ "__name__" := by decide) (hd : (x == ("__debug__" : Str)) = false := by decide) : wpAny c.M A (eval (.Name x pos) env) Q E s :=
  Name_function_global ok.kind hl (loadGlobal_builtin (by rw [ok.glob]; exact c.T.g.keeps k) (mg_none_of c.X c.T.g hg) (by rw [ok.bi]; exact c.T.b.keeps k) ((c.T.builtins x hn).trans hb) h) hd
theorem Ev_gint {x : Str} {i : Int} {t : Tok} {pos} {k : AV → St → Prop} (ok : EnvOk env) (hl : env.kindOf x = some .globalImplicit) (hg : nsIn c.K mainGlobals x = some (some (.int i t))) (h : k (.int i) st) (hd : (x == ("__debug__" : Str)) = false := by decide) :
    Ev c N ow env (eval (.Name x pos) env) k st := fun A P s R H F => wp_glob ok hl hg H.keep ⟨_, st, H, F, .int _ _, .refl _, h⟩ hd

-- operators
theorem Ev_BinOp {l r : Expr} {op : Operator} {pos} {k : AV → St → Prop}
    (h : Ev c N ow env (eval l env) (fun a st₁ => Ev c N ow env (eval r env) (fun b st₂ => Op2 c N ow env (binaryOp op) a b k st₂) st₁) st) : Ev c N ow env (eval (.BinOp l op r pos) env) k st := fun A P s R H F =>
  wpAny_BinOp (h.then R H F fun v s₁ a st₁ H₁ F₁ V₁ E₁ h₁ _ _ => h₁.then R H₁ F₁ fun u s₂ b st₂ H₂ F₂ V₂ E₂ h₂ T₂ _ =>
    wpAny_mono (h₂ A P s₂ v u R H₂ F₂ (V₁.mono T₂) V₂) (fun _ _ x => (x.ext E₂).ext E₁) fun _ _ x => x)
theorem Ev_Compare {l r : Expr} {op : CmpOp} {pos} {k : AV → St → Prop}
    (h : Ev c N ow env (eval l env) (fun a st₁ => Ev c N ow env (eval r env) (fun b st₂ => Op2 c N ow env (compareOp op) a b k st₂) st₁) st) (hm : behindInMarks op r = false := by with_unfolding_all rfl) :
    Ev c N ow env (eval (.Compare l [op] [r] pos) env) k st := fun A P s R H F =>
  wpAny_Compare1 (h.then R H F fun v s₁ a st₁ H₁ F₁ V₁ E₁ h₁ _ _ => h₁.then R H₁ F₁ fun u s₂ b st₂ H₂ F₂ V₂ E₂ h₂ T₂ _ =>
    wpAny_mono (h₂ A P s₂ v u R H₂ F₂ (V₁.mono T₂) V₂) (fun _ _ x => (x.ext E₂).ext E₁) fun _ _ x => x) hm
theorem Ev_UnaryOp {x : Expr} {op : UnaryOp} {pos} {k : AV → St → Prop} (h : Ev c N ow env (eval x env) (fun a st₁ => Op1 c N ow env (unaryOp op) a k st₁) st) : Ev c N ow env (eval (.UnaryOp op x pos) env) k st := fun A P s R H F =>
  wpAny_UnaryOp (h.then R H F fun v s₁ a st₁ H₁ F₁ V₁ E₁ h₁ _ _ => wpAny_mono (h₁ A P s₁ v R H₁ F₁ V₁) (fun _ _ x => x.ext E₁) fun _ _ x => x)

-- tests
/-- the truth of a value that a comparison hands back -/
def tB (a : AV) : Option Bool := match a with
  | .bool b => some b
  | .none => some false
  | _ => none
theorem wp_truthy {a : AV} {b : Bool} {v : Value} {A : Around} {s : Shared} {h : Heap} {E : Value → Shared → Prop} {Q : Bool → Shared → Prop} {X : Hid} (V : VR X h v a) (e : tB a = some b) (q : Q b s) : wpAny c.M A (truthy v) Q E s := by
  cases V with
  | none => cases e; exact fun _ _ _ => q
  | bool b' => cases e; exact wpAny_truthy_bool q
  | _ => cases e
theorem Tst_Compare {l r : Expr} {op : CmpOp} {pos whole} {k : Bool → St → Prop}
    (h : Ev c N ow env (eval l env) (fun a st₁ => Ev c N ow env (eval r env) (fun b st₂ => Op2 c N ow env (compareOp op) a b (fun z st₃ => ∃ t, tB z = some t ∧ k t st₃) st₂) st₁) st) (hm : behindInMarks op r = false := by with_unfolding_all rfl) :
    Tst c N ow env (isTrue (.Compare l [op] [r] pos) env whole) k st := fun A P s R H F =>
  wpAny_isTrue_Compare1 (h.then R H F fun v s₁ a st₁ H₁ F₁ V₁ E₁ h₁ _ _ => h₁.then R H₁ F₁ fun u s₂ b st₂ H₂ F₂ V₂ E₂ h₂ T₂ _ =>
    wpAny_mono (h₂ A P s₂ v u R H₂ F₂ (V₁.mono T₂) V₂) (fun z s₃ ⟨av, st₃, H₃, F₃, V₃, E₃, t, e, q⟩ => wp_truthy V₃ e ⟨st₃, H₃, F₃, (E₁.trans E₂).trans E₃, q⟩) fun _ _ x => x) hm
theorem Tst_Not {x : Expr} {pos whole} {k : Bool → St → Prop} (h : Tst c N ow env (isTrue x env (eval x env)) (fun b st₁ => k (!b) st₁) st) : Tst c N ow env (isTrue (.UnaryOp .Not x pos) env whole) k st := fun A P s R H F =>
  wpAny_isTrue_Not (wpAny_mono (h A P s R H F) (fun _ _ ⟨st', H', F', E', q⟩ => ⟨st', H', F', E', q⟩) fun _ _ x => x)
theorem Tst_And2 {x y : Expr} {pos whole} {k : Bool → St → Prop}
    (h : Tst c N ow env (isTrue x env (eval x env)) (fun b st₁ => (b = false → k false st₁) ∧ (b = true → Tst c N ow env (isTrue y env (eval y env)) k st₁)) st) : Tst c N ow env (isTrue (.BoolOp .And [x, y] pos) env whole) k st := fun A P s R H F =>
  wpAny_isTrue_BoolOp (wpAny_allTrue_And_cons (h.then R H F fun b s₁ st₁ H₁ F₁ E₁ q _ _ => by
    cases b with
    | false => exact ⟨st₁, H₁, F₁, E₁, q.1 rfl⟩
    | true =>
      refine wpAny_allTrue_And_cons ((q.2 rfl).then R H₁ F₁ fun b s₂ st₂ H₂ F₂ E₂ q _ _ => ?_)
      cases b with
      | false => exact ⟨st₂, H₂, F₂, E₁.trans E₂, q⟩
      | true => exact wpAny_allTrue_And_nil ⟨st₂, H₂, F₂, E₁.trans E₂, q⟩))
theorem Tst_Or2 {x y : Expr} {pos whole} {k : Bool → St → Prop}
    (h : Tst c N ow env (isTrue x env (eval x env)) (fun b st₁ => (b = true → k true st₁) ∧ (b = false → Tst c N ow env (isTrue y env (eval y env)) k st₁)) st) : Tst c N ow env (isTrue (.BoolOp .Or [x, y] pos) env whole) k st := fun A P s R H F =>
  wpAny_isTrue_BoolOp (wpAny_allTrue_Or_cons (h.then R H F fun b s₁ st₁ H₁ F₁ E₁ q _ _ => by
    cases b with
    | true => exact ⟨st₁, H₁, F₁, E₁, q.1 rfl⟩
    | false =>
      refine wpAny_allTrue_Or_cons ((q.2 rfl).then R H₁ F₁ fun b s₂ st₂ H₂ F₂ E₂ q _ _ => ?_)
      cases b with
      | true => exact ⟨st₂, H₂, F₂, E₁.trans E₂, q⟩
      | false => exact wpAny_allTrue_Or_nil ⟨st₂, H₂, F₂, E₁.trans E₂, q⟩))
/-- a test that is a plain expression whose value is a bool (a call) -/
theorem Tst_value {e : Expr} {whole : Sem Value} {k : Bool → St → Prop} (h : Ev c N ow env whole (fun a st₁ => ∃ t, tB a = some t ∧ k t st₁) st)
    (he : isTrue e env whole = (do let v ← whole; standAt e.pos; holding [v] (truthy v)) := by rfl) : Tst c N ow env (isTrue e env whole) k st := fun A P s R H F =>
  wpAny_isTrue_value (h.then R H F fun v s₁ a st₁ H₁ F₁ V₁ E₁ ⟨t, e, q⟩ _ _ => wp_truthy V₁ e ⟨st₁, H₁, F₁, E₁, q⟩) he

theorem Ev_IfExp {test body orelse : Expr} {pos} {k : AV → St → Prop}
    (h : Tst c N ow env (isTrue test env (eval test env)) (fun b st₁ => (b = true → Ev c N ow env (eval body env) k st₁) ∧ (b = false → Ev c N ow env (eval orelse env) k st₁)) st) : Ev c N ow env (eval (.IfExp test body orelse pos) env) k st := fun A P s R H F =>
  wpAny_IfExp (h.then R H F fun b s₁ st₁ H₁ F₁ E₁ q _ _ => by
    cases b with
    | true => exact wpAny_mono (q.1 rfl A P s₁ R H₁ F₁) (fun _ _ x => x.ext E₁) fun _ _ x => x
    | false => exact wpAny_mono (q.2 rfl A P s₁ R H₁ F₁) (fun _ _ x => x.ext E₁) fun _ _ x => x)
theorem Ev_And2 {x y : Expr} {pos} {k : AV → St → Prop}
    (h : Ev c N ow env (eval x env) (fun a st₁ => ∃ t, tB a = some t ∧ (t = false → k a st₁) ∧ (t = true → Ev c N ow env (eval y env) k st₁)) st) : Ev c N ow env (eval (.BoolOp .And [x, y] pos) env) k st := fun A P s R H F =>
  wpAny_And2 (h.then R H F fun v s₁ a st₁ H₁ F₁ V₁ E₁ ⟨t, e, q⟩ _ _ => wp_truthy V₁ e (by
    cases t with
    | false => exact ⟨_, st₁, H₁, F₁, V₁, E₁, q.1 rfl⟩
    | true => exact wpAny_mono (q.2 rfl A P s₁ R H₁ F₁) (fun _ _ x => x.ext E₁) fun _ _ x => x))

-- lists of values
theorem Evs_nil {pos} {k : List AV → St → Prop} (h : k [] st) : Evs c N ow env (spliced (backTo pos (starEach [] env))) k st := fun A P s R H F =>
  wpAny_items_nil ⟨[], st, H, F, .nil, .refl _, h⟩
abbrev consK (a : AV) (k : List AV → St → Prop) : List AV → St → Prop := fun as st₂ => k (a :: as) st₂
abbrev evsK (c : Cx) (N : Nat) (ow : List Addr) (env : Env) (pos : Pos) (rest : List Expr) (k : List AV → St → Prop) : AV → St → Prop := fun a st₁ => Evs c N ow env (spliced (backTo pos (starEach rest env))) (consK a k) st₁
theorem Evs_cons {pos} {e : Expr} {rest : List Expr} {k : List AV → St → Prop}
    (h : Ev c N ow env (eval e env) (evsK c N ow env pos rest k) st)
    (he : starEach (e :: rest) env = (false, eval e env) :: starEach rest env := by rfl) : Evs c N ow env (spliced (backTo pos (starEach (e :: rest) env))) k st := fun A P s R H F =>
  wpAny_items_cons (h.then R H F fun v s₁ a st₁ H₁ F₁ V₁ E₁ h₁ _ _ => h₁.then R H₁ F₁ fun vs s₂ as st₂ H₂ F₂ V₂ E₂ q T₂ _ =>
    ⟨a :: as, st₂, H₂, F₂, .cons (V₁.mono T₂) V₂, E₁.trans E₂, q⟩) he

-- allocation
theorem TK.push (X : Hid) (h : Heap) (o : Obj) : TK X h X (h.push o) := .of fun _ _ e => Heap.get?_push_of_some _ e
theorem HR.push {P : Pt} {hp : AH} {h : Heap} (H : HR c P hp h) (o : Obj) : HR c P hp (h.push o) where
  prot := fun b o' e => Heap.get?_push_of_some _ (H.prot b o' e)
  base := H.base
  objs := fun a o' e => ⟨(H.objs a o' e).1, (H.objs a o' e).2.mono (TK.push _ _ _) fun _ q => Heap.get?_push_of_some _ q⟩
  hid := fun a x => let ⟨o, e⟩ := H.hid a x; ⟨o, Heap.get?_push_of_some _ e⟩
  hi := H.hi
theorem HR.notHid {P : Pt} {hp : AH} {h : Heap} (H : HR c P hp h) : ¬ P.x h.objs.size := fun x => let ⟨_, e⟩ := H.hid _ x; Nat.lt_irrefl _ (Heap.lt_size e)
theorem FR.keeps {P : Pt} {h h' : Heap} (F : FR P ow env st h) (k : ∀ b o, h.get? b = some o → h'.get? b = some o) : FR P ow env st h' where
  ns := let ⟨m, hn, hm⟩ := F.ns; ⟨m, hn.keeps k, fun x av e l => let ⟨v, e1, V⟩ := hm x av e l; ⟨v, e1, V.mono (.of k)⟩⟩
  cl := fun x av e l => let ⟨cx, v, e1, I, V⟩ := F.cl x av e l; ⟨cx, v, e1, I.keeps k, V.mono (.of k)⟩
  own := F.own
  ows := fun a ha => let ⟨h1, h2, v, I⟩ := F.ows a ha; ⟨h1, h2, v, I.keeps k⟩
  cls := fun x cx e => let ⟨v, I⟩ := F.cls x cx e; ⟨v, I.keeps k⟩
theorem FR.push {P : Pt} {h : Heap} (F : FR P ow env st h) (o : Obj) : FR P ow env st (h.push o) := F.keeps fun _ _ e => Heap.get?_push_of_some _ e

def upd {β : Type} (f : Addr → Option β) (a : Addr) (o : β) : Addr → Option β := fun b => if b = a then some o else f b
theorem upd_same {β : Type} {f : Addr → Option β} {a : Addr} {o : β} : upd f a o a = some o := if_pos rfl
theorem upd_ne {β : Type} {f : Addr → Option β} {a b : Addr} {o : β} (h : b ≠ a) : upd f a o b = f b := if_neg h
def St.put (st : St) (a : Addr) (o : AO) : St := ⟨st.loc, upd st.hp a o⟩

/-- a new object is known from here on -/
theorem HR.new {P : Pt} {hp : AH} {h : Heap} {o : Obj} {ao : AO} (H : HR c P hp h) (r : OR c P.x (h.push o) h.objs.size ao) : HR c P (upd hp h.objs.size ao) (h.push o) where
  prot := (H.push o).prot
  base := H.base
  objs := fun a o' e => by
    unfold upd at e
    split at e
    · rename_i q
      cases e; subst q
      refine ⟨?_, r⟩
      cases q : P.p h.objs.size with
      | none => rfl
      | some ob => exact absurd (Heap.lt_size (H.prot _ _ q)) (Nat.lt_irrefl _)
    · exact (H.push o).objs a o' e
  hid := (H.push o).hid
  hi := fun a o' e => by
    unfold upd at e
    split at e
    · rename_i q
      obtain ⟨o, _, _, eg, _⟩ := c.T.g
      exact q ▸ Heap.lt_size (H.keep _ _ eg)
    · exact H.hi a o' e
theorem HR.fresh {P : Pt} {hp : AH} {h : Heap} (H : HR c P hp h) : hp h.objs.size = none := by
  cases q : hp h.objs.size with
  | none => rfl
  | some o => exact absurd (H.objs _ _ q).2.lt (Nat.lt_irrefl _)
theorem FR.lt {P : Pt} {h : Heap} (F : FR P ow env st h) : env.locals < h.objs.size := let ⟨_, hn, _⟩ := F.ns; hn.lt
theorem FR.put {P : Pt} {h : Heap} {a : Addr} {ao : AO} (F : FR P ow env st h) (ha : a ≠ env.locals) (ho : a ∉ ow) : FR P ow env (st.put a ao) h where
  ns := F.ns
  cl := F.cl
  own := ⟨F.own.1, (upd_ne (Ne.symm ha)).trans F.own.2⟩
  ows := fun b hb => let ⟨h1, h2, r⟩ := F.ows b hb; ⟨h1, (upd_ne (fun (e : b = a) => ho (e ▸ hb))).trans h2, r⟩
  cls := F.cls
theorem FR.new {P : Pt} {h : Heap} {ao : AO} (F : FR P ow env st h) (o : Obj) : FR P ow env (st.put h.objs.size ao) (h.push o) :=
  (F.push o).put (Nat.ne_of_gt F.lt) fun hm => by obtain ⟨_, _, v, I⟩ := F.ows _ hm; exact absurd I.lt (Nat.lt_irrefl _)

theorem VRs.list (l : List Value) : (List.toArray l).toList = l := rfl

-- tuple and list displays
theorem Ev_Tuple {elts : List Expr} {n : Nat} {pos} {k : AV → St → Prop}
    (h : Evs c N ow env (spliced (backTo pos (starEach elts env))) (fun as st₁ => as.length ≤ 1000 ∧ k (.tup as) st₁) st) : Ev c N ow env (eval (.Tuple elts n pos) env) k st := fun A P s R H F =>
  wpAny_Tuple (h.then R H F fun vs s₁ as st₁ H₁ F₁ V₁ E₁ ⟨hl, q⟩ _ _ => ⟨by rw [V₁.length, sizeLine_eq]; omega,
    ⟨_, st₁, H₁.push _, F₁.push _, .tup (IsT.new _ _) H₁.notHid (V₁.mono (TK.push _ _ _)), E₁.trans ⟨_, _, rfl⟩, q⟩⟩)
theorem OR_newList {X : Hid} {h : Heap} {vs : List Value} {l : List AV} (V : VRs X h vs l) (hl : l.length ≤ 100000) : OR c X (h.push { cls := .type "list", data := .seq vs.toArray }) h.objs.size (.list l) :=
  ⟨vs, 0, IsL.new _ _, V.mono (TK.push _ _ _), hl⟩
theorem Ev_List {elts : List Expr} {pos} {k : AV → St → Prop}
    (h : Evs c N ow env (spliced (backTo pos (starEach elts env))) (fun as st₁ => as.length ≤ 1000 ∧ ∀ a, st₁.hp a = none → k (.ref a) (st₁.put a (.list as))) st) : Ev c N ow env (eval (.List elts pos) env) k st := fun A P s R H F =>
  wpAny_List (h.then R H F fun vs s₁ as st₁ H₁ F₁ V₁ E₁ ⟨hl, q⟩ _ _ => ⟨by rw [V₁.length, sizeLine_eq]; omega,
    ⟨_, st₁.put _ _, H₁.new (OR_newList V₁ (by omega)), F₁.new _, .ref _, E₁.trans ⟨_, _, rfl⟩, q _ H₁.fresh⟩⟩)

-- statements
theorem Ex_nil {k : AF → St → Prop} (h : k .next st) : Ex c N ow env (execs [] env) k st := fun A P s R H F => wpAny_execs_nil ⟨.next, st, H, F, rfl, .refl _, h⟩
abbrev seqK (c : Cx) (N : Nat) (ow : List Addr) (env : Env) (rest : List Stmt) (k : AF → St → Prop) : AF → St → Prop := fun f st₁ => match f with | .next => Ex c N ow env (execs rest env) k st₁ | .ret v => k (.ret v) st₁
theorem Ex_cons {x : Stmt} {rest : List Stmt} {k : AF → St → Prop}
    (h : Ex c N ow env (exec x env) (seqK c N ow env rest k) st) : Ex c N ow env (execs (x :: rest) env) k st := fun A P s R H F =>
  wpAny_execs_cons (h.then R H F fun f s₁ af st₁ H₁ F₁ V₁ E₁ q _ _ => by
    cases f with
    | next =>
      have e : af = .next := V₁
      subst e
      exact wpAny_mono (q A P s₁ R H₁ F₁) (fun _ _ x => x.ext E₁) fun _ _ x => x
    | ret v =>
      obtain ⟨av, rfl, V⟩ := V₁
      exact ⟨_, st₁, H₁, F₁, ⟨av, rfl, V⟩, E₁, q⟩
    | brk => exact V₁.elim
    | cont => exact V₁.elim)
theorem Ex_Return {e : Expr} {pos} {k : AF → St → Prop} (h : Ev c N ow env (eval e env) (fun a st₁ => k (.ret a) st₁) st) : Ex c N ow env (exec (.Return (some e) pos) env) k st := fun A P s R H F =>
  wpAny_Return_some (h.then R H F fun v s₁ a st₁ H₁ F₁ V₁ E₁ q _ _ => ⟨_, st₁, H₁, F₁, ⟨a, rfl, V₁⟩, E₁, q⟩)
theorem Ex_If {test : Expr} {body orelse : List Stmt} {pos} {k : AF → St → Prop}
    (h : Tst c N ow env (isTrue test env (eval test env)) (fun b st₁ => (b = true → Ex c N ow env (execs body env) k st₁) ∧ (b = false → Ex c N ow env (execs orelse env) k st₁)) st) : Ex c N ow env (exec (.If test body orelse pos) env) k st := fun A P s R H F =>
  wpAny_If (h.then R H F fun b s₁ st₁ H₁ F₁ E₁ q _ _ => by
    cases b with
    | true => exact wpAny_mono (q.1 rfl A P s₁ R H₁ F₁) (fun _ _ x => x.ext E₁) fun _ _ x => x
    | false => exact wpAny_mono (q.2 rfl A P s₁ R H₁ F₁) (fun _ _ x => x.ext E₁) fun _ _ x => x)
end
end Mu
end
noncomputable section
open PySem PySem.W PySem.Calls PyProof.Rows
set_option Elab.async false
set_option linter.unusedVariables false

namespace Mu
section
variable {c : Cx} {N : Nat} {ow : List Addr} {env : Env} {st : St}

def St.set (st : St) (x : Str) (av : AV) : St := ⟨fun y => if y = x then some av else st.loc y, st.hp⟩

theorem TK.sameBut {X : Hid} {a : Addr} {h h' : Heap} (hs : Heap.SameBut a h h') (ht : ∀ vs n, ¬ IsT h a vs n) : TK X h X h' := fun b vs n x e =>
  ⟨x, (hs.2 b (fun q => ht vs n (q ▸ e))).trans e⟩
theorem HR.sameBut {P : Pt} {hp : AH} {a : Addr} {h h' : Heap} (H : HR c P hp h) (hs : Heap.SameBut a h h') (ha : P.p a = none) (hb : hp a = none) (ht : ∀ vs n, ¬ IsT h a vs n) (he : ∃ o, h'.get? a = some o) : HR c P hp h' where
  prot := fun b o e => (hs.2 b (fun q => by rw [q, ha] at e; cases e)).trans (H.prot b o e)
  base := H.base
  objs := fun b o e => ⟨(H.objs b o e).1, (H.objs b o e).2.mono (.sameBut hs ht) fun ob q => (hs.2 b (fun q => by rw [q, hb] at e; cases e)).trans q⟩
  hid := fun b x => by
    by_cases q : b = a
    · exact q ▸ he
    · obtain ⟨o, e⟩ := H.hid b x; exact ⟨o, (hs.2 b q).trans e⟩
  hi := H.hi
theorem ns_notT {h : Heap} {L : Addr} {m : Str → Option Value} (n : h.Ns L m) : ∀ vs k, ¬ IsT h L vs k := fun vs k e => by
  obtain ⟨o, es, ep, e1, e2, _⟩ := n
  rw [e] at e1; cases e1; cases e2
theorem cell_notT {h : Heap} {a : Addr} {v : Option Value} (n : h.IsCell a v) : ∀ vs k, ¬ IsT h a vs k := fun vs k e => by
  obtain ⟨o, e1, e2⟩ := n
  rw [e] at e1; cases e1; cases e2
theorem ns_notCell {h : Heap} {L : Addr} {m : Str → Option Value} {v : Option Value} (n : h.Ns L m) : ¬ h.IsCell L v := fun e => by
  obtain ⟨o, es, ep, e1, e2, _⟩ := n
  obtain ⟨o', e3, e4⟩ := e
  rw [e1] at e3; cases e3; rw [e2] at e4; cases e4

-- stores
theorem Un_loc {x : Str} {a : AV} {k : St → Prop} (ok : EnvOk env) (hl : env.kindOf x = some .local) (h : k (st.set x a)) : Un1 c N ow env (storeName env x) a k st := fun A P s v R H F V => by
  obtain ⟨m, hn, hm⟩ := F.ns
  refine wpAny_storeName_local hl hn (fun h' hn' hs => ?_) (by simp [ok.kind])
  have T : TK P.x s.heap P.x h' := .sameBut hs (ns_notT hn)
  refine ⟨st.set x a, H.sameBut hs F.own.1 F.own.2 (ns_notT hn) (let ⟨o, _, _, e, _⟩ := hn'; ⟨o, e⟩), ⟨⟨_, hn', fun y av e l => ?_⟩, fun y av e l => ?_, F.own, fun b hb => ?_, fun y cx e => ?_⟩, ⟨_, _, rfl⟩, h⟩
  · simp only [St.set] at e
    split at e
    · cases e; exact ⟨v, if_pos ‹_›, V.mono T⟩
    · obtain ⟨u, e1, e2⟩ := hm y av e l
      exact ⟨u, (if_neg ‹_›).trans e1, e2.mono T⟩
  · simp only [St.set] at e
    split at e
    · rename_i q; subst q; rw [hl] at l; cases l
    · obtain ⟨cx, u, e1, e2, e3⟩ := F.cl y av e l
      exact ⟨cx, u, e1, e2.sameBut hs (fun q => ns_notCell hn (q ▸ e2)), e3.mono T⟩
  · obtain ⟨h1, h2, u, e2⟩ := F.ows b hb
    exact ⟨h1, h2, u, e2.sameBut hs (fun q => ns_notCell hn (q ▸ e2))⟩
  · obtain ⟨u, e2⟩ := F.cls y cx e
    exact ⟨u, e2.sameBut hs (fun q => ns_notCell hn (q ▸ e2))⟩

theorem Un_cell {x : Str} {cx : Addr} {a : AV} {k : St → Prop} (ok : EnvOk env) (hl : env.kindOf x = some .cell) (hc : env.cells.lookup x = some cx) (ho : cx ∈ ow) (hi : ∀ y, env.cells.lookup y = some cx → y = x)
    (h : k (st.set x a)) : Un1 c N ow env (storeName env x) a k st := fun A P s v R H F V => by
  obtain ⟨p1, p2, v₀, I⟩ := F.ows cx ho
  refine wpAny_storeName_cell ok.kind hl hc I fun h' I' hs => ?_
  have T : TK P.x s.heap P.x h' := .sameBut hs (cell_notT I)
  obtain ⟨m, hn, hm⟩ := F.ns
  refine ⟨st.set x a, H.sameBut hs p1 p2 (cell_notT I) (let ⟨o, e, _⟩ := I'; ⟨o, e⟩), ⟨⟨m, hn.sameBut hs (fun q => ns_notCell hn (q ▸ I)), fun y av e l => ?_⟩, fun y av e l => ?_, F.own, fun b hb => ?_, fun y cy e => ?_⟩, ⟨_, _, rfl⟩, h⟩
  · simp only [St.set] at e
    split at e
    · rename_i q; subst q; rw [hl] at l; cases l
    · obtain ⟨u, e1, e2⟩ := hm y av e l
      exact ⟨u, e1, e2.mono T⟩
  · simp only [St.set] at e
    split at e
    · rename_i q; subst q; cases e
      exact ⟨cx, v, hc, I', V.mono T⟩
    · rename_i q
      obtain ⟨cy, u, e1, e2, e3⟩ := F.cl y av e l
      exact ⟨cy, u, e1, e2.sameBut hs (fun z => q (hi y (z ▸ e1))), e3.mono T⟩
  · obtain ⟨h1, h2, u, e2⟩ := F.ows b hb
    by_cases q : b = cx
    · subst q; exact ⟨h1, h2, _, I'⟩
    · exact ⟨h1, h2, u, e2.sameBut hs q⟩
  · obtain ⟨u, e2⟩ := F.cls y cy e
    by_cases q : cy = cx
    · subst q; exact ⟨_, I'⟩
    · exact ⟨u, e2.sameBut hs q⟩

theorem Ex_Assign {x : Str} {px : Pos} {value : Expr} {pos : Pos} {k : AF → St → Prop} (h : Ev c N ow env (eval value env) (fun a st₁ => Un1 c N ow env (storeName env x) a (k .next) st₁) st)
    (hs : swapsWith value (some (.Name x px)) pos.line env = pure false := by rfl) : Ex c N ow env (exec (.Assign [.Name x px] value pos) env) k st := fun A P s R H F =>
  wpAny_Assign_Name (h.then R H F fun v s₁ a st₁ H₁ F₁ V₁ E₁ q _ _ =>
    wpAny_mono (q A P s₁ v R H₁ F₁ V₁) (fun _ s₂ ⟨st₂, H₂, F₂, E₂, q₂⟩ => ⟨.next, st₂, H₂, F₂, rfl, E₁.trans E₂, q₂⟩) fun _ _ x => x) hs

theorem Un1_Name {x : Str} {px : Pos} {a : AV} {k : St → Prop} (h : Un1 c N ow env (storeName env x) a k st) : Un1 c N ow env (assign (.Name x px) env) a k st := fun A P s v R H F V => wpAny_assign_Name (h A P s v R H F V)

/-- stores in order -/
def UnL (c : Cx) (N : Nat) (ow : List Addr) (env : Env) (ts : List (Value → Sem Unit)) (as : List AV) (k : St → Prop) (st : St) : Prop :=
  ∀ A P s vs, Room N A → HR c P st.hp s.heap → FR P ow env st s.heap → VRs P.x s.heap vs as → wpAny c.M A (assignInOrder ts vs) (PUn c P ow env s k) NoE s
theorem UnL_nil {k : St → Prop} (h : k st) : UnL c N ow env [] [] k st := fun A P s vs R H F V => wpAny_pure ⟨st, H, F, .refl _, h⟩
theorem UnL_cons {t : Value → Sem Unit} {ts : List (Value → Sem Unit)} {a : AV} {as : List AV} {k : St → Prop} (h : Un1 c N ow env t a (fun st₁ => UnL c N ow env ts as k st₁) st) : UnL c N ow env (t :: ts) (a :: as) k st := fun A P s vs R H F V => by
  cases V with
  | cons v1 v2 =>
    rename_i v vs
    show wpAny c.M A (holding vs (t v) >>= fun _ => assignInOrder ts vs) _ _ _
    have hU : Un c N ow env (t v) (fun st₁ => UnL c N ow env ts as k st₁) st → True := fun _ => trivial
    refine wpAny_bind (wpAny_holding ?_)
    have h1 := h A (PFr P s st.hp env.locals ow) s v R (H.allF F.own.1 fun a ha => (F.ows a ha).1) F.pf v1
    refine wpAny_mono h1 (fun _ s₁ ⟨st₁, H₁, F₁, E₁, q⟩ => ?_) fun _ _ x => x
    have T := tk_of H F H₁.keepsF
    exact wpAny_mono (q A P s₁ vs R (H.backF F.own.1 (fun a ha => (F.ows a ha).1) H₁) (F.pb F₁ rfl) (v2.mono T)) (fun _ _ x => x.ext E₁) fun _ _ x => x
theorem UnL_map {ts ts' : List (Value → Sem Unit)} {as : List AV} {k : St → Prop} (e : ts = ts') (h : UnL c N ow env ts' as k st) : UnL c N ow env ts as k st := e ▸ h

theorem isT_tuple {h : Heap} {t : Addr} {items : Array Value} {n : Nat} (x : IsT h t items n) : h.IsTuple t items := ⟨_, x, rfl, n, rfl⟩
/-- all but what lies at or above a size is kept -/
theorem HR.ext {P : Pt} {hp : AH} {h h' : Heap} (H : HR c P hp h) (k : ∀ b o, h.get? b = some o → h'.get? b = some o) : HR c P hp h' where
  prot := fun b o e => k _ _ (H.prot b o e)
  base := H.base
  objs := fun a o e => ⟨(H.objs a o e).1, (H.objs a o e).2.mono (.of k) fun ob q => k _ _ q⟩
  hid := fun a x => let ⟨o, e⟩ := H.hid a x; ⟨o, k _ _ e⟩
  hi := H.hi

theorem extBut_keeps {h h' : Heap} (e : Heap.ExtBut h.objs.size h h') : ∀ b o, h.get? b = some o → h'.get? b = some o := fun b o q => e b o (Nat.ne_of_lt (Heap.lt_size q)) q

theorem Un1_Tuple {elts : List Expr} {n : Nat} {pos : Pos} {as : List AV} {k : St → Prop} (h : UnL c N ow env ((assignEach elts env).map (·.2)) as k st) (hn : (assignEach elts env).length = as.length := by rfl)
    (hstar : (assignEach elts env).findIdx? (·.1) = none := by rfl) : Un1 c N ow env (assign (.Tuple elts n pos) env) (.tup as) k st := fun A P s v R H F V => by
  apply V.rT; intro a vs m hT hx hV
  refine wpAny_assign_Tuple R.1 (isT_tuple hT) (by rw [hn, ← hV.length, List.size_toArray]) hstar fun h' he => ?_
  have K := extBut_keeps he
  exact wpAny_mono (h A P _ _ R (H.ext K) (F.keeps K) (hV.mono (.of K))) (fun _ _ x => x.ext ⟨h', _, rfl⟩) fun _ _ x => x

theorem Ex_AssignTuple {elts : List Expr} {n : Nat} {tpos pos : Pos} {value : Expr} {k : AF → St → Prop}
    (h : Ev c N ow env (eval value env) (fun a st₁ => Un1 c N ow env (assign (.Tuple elts n tpos) env) a (k .next) st₁) st)
    (hs : swapsWithSole [.Tuple elts n tpos] value pos.line env = pure false := by rfl)
    (hw : swappedStores [.Tuple elts n tpos] value env = pure none := by rfl) : Ex c N ow env (exec (.Assign [.Tuple elts n tpos] value pos) env) k st := fun A P s R H F =>
  Assign_Tuple (h.then R H F fun v s₁ a st₁ H₁ F₁ V₁ E₁ q _ _ =>
    wpAny_mono (q A P s₁ v R H₁ F₁ V₁) (fun _ s₂ ⟨st₂, H₂, F₂, E₂, q₂⟩ => ⟨.next, st₂, H₂, F₂, rfl, E₁.trans E₂, q₂⟩) fun _ _ x => x) hs hw

theorem Un1_bind {x : Str} {a : AV} {k : St → Prop} (h : Un1 c N ow env (storeName env x) a k st) : Un1 c N ow env (bindName env x) a k st := fun A P s v R H F V => wpAny_bindName (h A P s v R H F V)

theorem Ex_AssignSwap {elts : List Expr} {n : Nat} {tpos pos : Pos} {value : Expr} {names : List Str} {k : AF → St → Prop}
    (h : Ev c N ow env (eval value env) (fun a st₁ => ∃ as, a = .tup as ∧ names.length = as.length ∧ UnL c N ow env (names.reverse.map fun n => bindName env n) as.reverse (k .next) st₁) st)
    (hs : swapsWithSole [.Tuple elts n tpos] value pos.line env = pure false := by rfl)
    (hw : swappedStores [.Tuple elts n tpos] value env = pure (some names) := by rfl) : Ex c N ow env (exec (.Assign [.Tuple elts n tpos] value pos) env) k st := fun A P s R H F =>
  Assign_Tuple_swapped (h.then R H F fun v s₁ a st₁ H₁ F₁ V₁ E₁ ⟨as, e, hl, q⟩ _ _ => by
    subst e
    apply V₁.rT; intro a vs m hT hx hV
    have e : names.length = (List.toArray vs).size := by rw [hl, ← hV.length]; simp
    rw [e]
    refine wpAny_unpackItems_tuple R.1 (isT_tuple hT) fun h' he => ?_
    have K := extBut_keeps he
    have V' := (hV.mono (.of K : TK P.x _ P.x h')).reverse
    exact wpAny_mono (q A P { s₁ with heap := h' } _ R (H₁.ext K) (F₁.keeps K) V') (fun _ s₂ ⟨st₂, H₂, F₂, E₂, q₂⟩ =>
      ⟨.next, st₂, H₂, F₂, rfl, E₁.trans (Ext.trans (s' := { s₁ with heap := h' }) ⟨h', _, rfl⟩ E₂), q₂⟩) fun _ _ x => x) hs hw

theorem Ex_Expr {e : Expr} {pos : Pos} {k : AF → St → Prop} (h : Ev c N ow env (eval e env) (fun a st₁ => a = .none ∧ k .next st₁) st)
    (hi : interactive env = false := by rfl) (hs : swapsWith e none pos.line env = pure false := by rfl) : Ex c N ow env (exec (.Expr e pos) env) k st := fun A P s R H F =>
  wpAny_Expr (h.then R H F fun v s₁ a st₁ H₁ F₁ V₁ E₁ ⟨e, q⟩ _ _ => by
    subst e
    apply V₁.rN
    exact ⟨.next, st₁, H₁, F₁, rfl, E₁, q⟩) hi hs
end
end Mu
end
noncomputable section
open PySem PySem.W PySem.Calls PyProof.Rows
set_option Elab.async false
set_option linter.unusedVariables false

namespace Mu
section
variable {c : Cx} {N : Nat} {ow : List Addr} {env : Env} {st : St}

-- a known object changes
theorem notT_of {X : Hid} {h : Heap} {a : Addr} {ao : AO} (r : OR c X h a ao) : ∀ vs n, ¬ IsT h a vs n := fun vs n e => by
  obtain ⟨ob, e1, e2⟩ := r.there
  rw [e] at e1; cases e1
  exact e2 _ _ rfl
theorem HR.chg {P : Pt} {hp : AH} {h h' : Heap} {a : Addr} {ao ao' : AO} (H : HR c P hp h) (ha : hp a = some ao) (hs : Heap.SameBut a h h') (r : OR c P.x h' a ao') : HR c P (upd hp a ao') h' where
  prot := fun b o e => (hs.2 b (fun q => by rw [q, (H.objs a ao ha).1] at e; cases e)).trans (H.prot b o e)
  base := H.base
  objs := fun b o e => by
    unfold upd at e
    split at e
    · rename_i q; cases e; subst q; exact ⟨(H.objs b ao ha).1, r⟩
    · rename_i q
      exact ⟨(H.objs b o e).1, (H.objs b o e).2.mono (.sameBut hs (notT_of (H.objs a ao ha).2)) fun ob e' => (hs.2 b q).trans e'⟩
  hid := fun b x => by
    by_cases q : b = a
    · obtain ⟨ob, e, _⟩ := r.there; exact ⟨ob, q ▸ e⟩
    · obtain ⟨o, e⟩ := H.hid b x; exact ⟨o, (hs.2 b q).trans e⟩
  hi := fun b o e => by
    unfold upd at e
    split at e
    · rename_i q; exact q ▸ H.hi a ao ha
    · exact H.hi b o e
theorem TK.chg {P : Pt} {hp : AH} {h h' : Heap} {a : Addr} {ao : AO} (H : HR c P hp h) (ha : hp a = some ao) (hs : Heap.SameBut a h h') : TK P.x h P.x h' := .sameBut hs (notT_of (H.objs a ao ha).2)
theorem FR.chg {P : Pt} {h h' : Heap} {a : Addr} {ao ao' : AO} (F : FR P ow env st h) (H : HR c P st.hp h) (ha : st.hp a = some ao) (hs : Heap.SameBut a h h') : FR P ow env (st.put a ao') h' := by
  have hL : a ≠ env.locals := fun q => by rw [q, F.own.2] at ha; cases ha
  have ho : a ∉ ow := fun q => by rw [(F.ows a q).2.1] at ha; cases ha
  have T := TK.chg H ha hs
  have hC : ∀ {cx : Addr} {v : Option Value}, h.IsCell cx v → h'.IsCell cx v := fun {cx v} I => I.sameBut hs fun q => by
    obtain ⟨o, e1, e2⟩ := I
    have r := (H.objs a ao ha).2
    subst q
    cases ao with
    | list l => obtain ⟨_, _, e, _⟩ := r; rw [e] at e1; cases e1; cases e2
    | dictI es => obtain ⟨_, ⟨_, _, _, e, _, d, _⟩, _⟩ := r; rw [e] at e1; cases e1; rw [d] at e2; cases e2
    | dictS es ep => obtain ⟨_, ⟨_, _, _, e, _, d, _⟩, _⟩ := r; rw [e] at e1; cases e1; rw [d] at e2; cases e2
    | inst C dx => have e : h.get? cx = some (instObj C dx) := r; rw [e] at e1; cases e1; cases e2
    | attrs es => obtain ⟨_, _, e, _⟩ := r; rw [e] at e1; cases e1; cases e2
  have F' : FR P ow env st h' :=
    ⟨let ⟨m, hn, hm⟩ := F.ns; ⟨m, hn.sameBut hs (Ne.symm hL), fun x av e l => let ⟨v, e1, V⟩ := hm x av e l; ⟨v, e1, V.mono T⟩⟩,
     fun x av e l => let ⟨cx, v, e1, I, V⟩ := F.cl x av e l; ⟨cx, v, e1, hC I, V.mono T⟩, F.own,
     fun b hb => let ⟨h1, h2, v, I⟩ := F.ows b hb; ⟨h1, h2, v, hC I⟩, fun x cx e => let ⟨v, I⟩ := F.cls x cx e; ⟨v, hC I⟩⟩
  exact F'.put hL ho

-- the bridge to the library's frame and ledger
def allNews (h : Heap) (L : Addr) : List (Addr × Obj) := (List.range h.objs.size).filterMap fun b => if b = L then none else (h.get? b).map fun o => (b, o)
theorem mem_allNews {h : Heap} {L b : Addr} {o : Obj} : (b, o) ∈ allNews h L ↔ b ≠ L ∧ h.get? b = some o := by
  unfold allNews
  rw [List.mem_filterMap]
  constructor
  · rintro ⟨x, _, e⟩
    split at e
    · cases e
    · rename_i q
      obtain ⟨o', e1, e2⟩ := Option.map_eq_some_iff.mp e
      cases e2
      exact ⟨q, e1⟩
  · rintro ⟨hb, e⟩
    exact ⟨b, List.mem_range.mpr (Heap.lt_size e), by rw [if_neg hb, e]; rfl⟩
theorem empty_get (b : Addr) : ({} : Heap).get? b = none := by
  cases q : ({} : Heap).get? b with
  | none => rfl
  | some o => exact absurd (Heap.lt_size q) (Nat.not_lt_zero _)
theorem news_all {h : Heap} {L : Addr} : News {} L h (allNews h L) := fun p hp => by
  obtain ⟨b, o⟩ := p
  obtain ⟨h1, h2⟩ := mem_allNews.mp hp
  exact ⟨h2, h1, empty_get _⟩
theorem fr_empty {h : Heap} {L : Addr} {m : Str → Option Value} (n : h.Ns L m) : Fr {} L h m := ⟨n, fun b o e => (by rw [empty_get] at e; cases e), Nat.zero_le _⟩
theorem allNews_nodup (h : Heap) (L : Addr) : ((allNews h L).map (·.1)).Nodup := by
  unfold allNews
  have : ∀ l : List Nat, l.Nodup → ((l.filterMap fun b => if b = L then none else (h.get? b).map fun o => (b, o)).map (·.1)).Nodup := by
    intro l
    induction l with
    | nil => intro _; exact List.nodup_nil
    | cons x r ih =>
      intro hn
      obtain ⟨h1, h2⟩ := List.nodup_cons.mp hn
      rw [List.filterMap_cons]
      split
      · exact ih h2
      · rename_i p e
        rw [List.map_cons, List.nodup_cons]
        refine ⟨fun hm => h1 ?_, ih h2⟩
        obtain ⟨q, hq, e2⟩ := List.mem_map.mp hm
        obtain ⟨y, hy, e3⟩ := List.mem_filterMap.mp hq
        split at e
        · cases e
        · split at e3
          · cases e3
          · obtain ⟨o1, _, e4⟩ := Option.map_eq_some_iff.mp e
            obtain ⟨o2, _, e5⟩ := Option.map_eq_some_iff.mp e3
            subst e4; subst e5
            have e2' : y = x := e2
            exact e2' ▸ hy
  exact this _ List.nodup_range
theorem allNews_split {h : Heap} {L d : Addr} {o : Obj} (e : h.get? d = some o) (hd : d ≠ L) : ∃ pre post, allNews h L = pre ++ (d, o) :: post ∧ (∀ p ∈ pre, p.1 ≠ d) ∧ (∀ p ∈ post, p.1 ≠ d) := by
  obtain ⟨pre, post, q⟩ := List.append_of_mem (mem_allNews.mpr ⟨hd, e⟩)
  have hn := allNews_nodup h L
  rw [q, List.map_append, List.map_cons] at hn
  obtain ⟨n1, n2, n3⟩ := List.nodup_append.mp hn
  refine ⟨pre, post, q, fun p hp z => ?_, fun p hp z => ?_⟩
  · exact n3 p.1 (List.mem_map_of_mem hp) d (List.mem_cons_self) z
  · have := List.mem_map_of_mem (f := (·.1)) hp
    rw [z] at this
    exact (List.nodup_cons.mp n2).1 this

/-- all objects but the frame's namespace are kept, and that says what it said -/
theorem back0 {P : Pt} {h h' : Heap} {m : Str → Option Value} (H : HR c P st.hp h) (F : FR P ow env st h) (hn : h.Ns env.locals m) (hm : ∀ x av, st.loc x = some av → env.kindOf x = some .local → ∃ v, m x = some v ∧ VR P.x h v av)
    (F' : Fr {} env.locals h' m) (N' : News {} env.locals h' (allNews h env.locals)) : HR c P st.hp h' ∧ FR P ow env st h' ∧ TK P.x h P.x h' := by
  have k : ∀ b o, b ≠ env.locals → h.get? b = some o → h'.get? b = some o := fun b o hb e => (N' _ (mem_allNews.mpr ⟨hb, e⟩)).1
  have T : TK P.x h P.x h' := fun a vs n x e => ⟨x, k a _ (fun q => ns_notT hn _ _ (q ▸ e)) e⟩
  refine ⟨⟨fun b o e => k b o (fun q => by rw [q, F.own.1] at e; cases e) (H.prot b o e), H.base, fun a o e => ⟨(H.objs a o e).1, (H.objs a o e).2.mono T fun ob q => k a ob (fun z => by rw [z, F.own.2] at e; cases e) q⟩, fun a x => ?_, H.hi⟩, ⟨⟨m, F'.ns, fun x av e l => ?_⟩, fun x av e l => ?_, F.own, fun b hb => ?_, fun x cx e => ?_⟩, T⟩
  · by_cases q : a = env.locals
    · obtain ⟨o, _, _, e, _⟩ := F'.ns; exact ⟨o, q ▸ e⟩
    · obtain ⟨o, e⟩ := H.hid a x; exact ⟨o, k a o q e⟩
  · obtain ⟨v, e1, V⟩ := hm x av e l; exact ⟨v, e1, V.mono T⟩
  · obtain ⟨cx, v, e1, ⟨o, e2, e3⟩, V⟩ := F.cl x av e l
    exact ⟨cx, v, e1, ⟨o, k cx o (fun q => ns_notCell hn ⟨o, q ▸ e2, e3⟩) e2, e3⟩, V.mono T⟩
  · obtain ⟨h1, h2, v, ⟨o, e2, e3⟩⟩ := F.ows b hb
    exact ⟨h1, h2, v, ⟨o, k b o (fun q => ns_notCell hn ⟨o, q ▸ e2, e3⟩) e2, e3⟩⟩
  · obtain ⟨v, ⟨o, e2, e3⟩⟩ := F.cls x cx e
    exact ⟨v, ⟨o, k cx o (fun q => ns_notCell hn ⟨o, q ▸ e2, e3⟩) e2, e3⟩⟩

-- calls
theorem backToKw_nil (pos : Pos) : backToKw pos (keywordEach [] env) = [] := rfl
/-- what has no body to keep: a built-in or a type -/
def plainF (f : Value) : Bool := match f with
  | .builtin _ => true
  | .type _ => true
  | _ => false
theorem plainF_keeps {f : Value} (hf : plainF f = true) (h : Heap) : ∃ k, (k = Keeper.frame ∨ k = Keeper.machine ∨ k = Keeper.boundFrame) ∧ Looks c.M h (keeperOf f) k := by
  cases f with
  | builtin id => exact ⟨.machine, .inr (.inl rfl), Looks.of_pure rfl⟩
  | type n => exact ⟨.machine, .inr (.inl rfl), Looks.of_pure rfl⟩
  | _ => cases hf

theorem callWith_any {A : Around} {s : Shared} {E : Value → Shared → Prop} {pos : Pos} {f : Value} {first : List Value} {e : Expr} {rest : List Expr} {Q : Value → Shared → Prop} {PP : Heap → Prop} (hk : ∀ h, PP h → ∃ k, (k = Keeper.frame ∨ k = Keeper.machine ∨ k = Keeper.boundFrame) ∧ Looks c.M h (keeperOf f) k)
    (h : wpAny c.M A (spliced (backTo pos (starEach (e :: rest) env))) (fun vs s₁ => PP s₁.heap ∧ wpAny c.M A (call f (first ++ vs)) Q E s₁) E s)
    (he : starEach (e :: rest) env = (false, eval e env) :: starEach rest env := by rfl) (hplain : (backTo pos (starEach rest env)).any (·.1) = false := by rfl) : wpAny c.M A (callWith pos f first (backTo pos (starEach (e :: rest) env)) []) Q E s := by
  rw [he] at h ⊢
  exact callWith_of (by show ((false || (backTo pos (starEach rest env)).any (·.1)) || false) = false; rw [hplain]; rfl) hk (evalArgs_plain h)
theorem callWith_none {A : Around} {s : Shared} {E : Value → Shared → Prop} {pos : Pos} {f : Value} {first : List Value} {Q : Value → Shared → Prop} {PP : Heap → Prop} (hk : ∀ h, PP h → ∃ k, (k = Keeper.frame ∨ k = Keeper.machine ∨ k = Keeper.boundFrame) ∧ Looks c.M h (keeperOf f) k)
    (hp : PP s.heap) (h : wpAny c.M A (call f (first ++ [])) Q E s) : wpAny c.M A (callWith pos f first (backTo pos (starEach [] env)) []) Q E s :=
  callWith_of rfl hk (evalArgs_nil3 ⟨hp, h⟩)

theorem FR.after {P : Pt} {s : Shared} {h' : Heap} {hp' : AH} (F : FR P ow env st s.heap) (H : HR c P st.hp s.heap) (H' : HR c (PAll P s st.hp) hp' h') : FR P ow env ⟨st.loc, hp'⟩ h' := by
  have k : ∀ b o, s.heap.get? b = some o → st.hp b = none → h'.get? b = some o := fun b o e hb => H'.prot b o (by simp only [PAll, pAll]; rw [hb]; exact e)
  have T := tk_all H H'
  have no : ∀ b o, s.heap.get? b = some o → st.hp b = none → hp' b = none := fun b o e hb => by
    cases q : hp' b with
    | none => rfl
    | some ao =>
      have := (H'.objs b ao q).1
      simp only [PAll, pAll] at this
      rw [hb] at this
      have this : s.heap.get? b = none := this
      rw [e] at this; cases this
  have hC : ∀ {cx : Addr} {v : Option Value}, s.heap.IsCell cx v → h'.IsCell cx v := fun {cx v} ⟨o, e1, e2⟩ => ⟨o, k cx o e1 (by
    cases q : st.hp cx with
    | none => rfl
    | some ao =>
      have r := (H.objs cx ao q).2
      exfalso
      cases ao with
      | list l => obtain ⟨_, _, e, _⟩ := r; rw [e] at e1; cases e1; cases e2
      | dictI es => obtain ⟨_, ⟨_, _, _, e, _, d, _⟩, _⟩ := r; rw [e] at e1; cases e1; rw [d] at e2; cases e2
      | dictS es ep => obtain ⟨_, ⟨_, _, _, e, _, d, _⟩, _⟩ := r; rw [e] at e1; cases e1; rw [d] at e2; cases e2
      | inst C dx => have e : s.heap.get? cx = some (instObj C dx) := r; rw [e] at e1; cases e1; cases e2
      | attrs es => obtain ⟨_, _, e, _⟩ := r; rw [e] at e1; cases e1; cases e2), e2⟩
  obtain ⟨m, hn, hm⟩ := F.ns
  obtain ⟨oL, es, ep, eL, r⟩ := hn
  refine ⟨⟨m, ⟨oL, es, ep, k _ _ eL F.own.2, r⟩, fun x av e l => let ⟨v, e1, V⟩ := hm x av e l; ⟨v, e1, V.mono T⟩⟩, fun x av e l => let ⟨cx, v, e1, I, V⟩ := F.cl x av e l; ⟨cx, v, e1, hC I, V.mono T⟩,
    ⟨F.own.1, no _ _ eL F.own.2⟩, fun b hb => ?_, fun x cx e => let ⟨v, I⟩ := F.cls x cx e; ⟨v, hC I⟩⟩
  obtain ⟨h1, h2, v, I⟩ := F.ows b hb
  obtain ⟨o, e1, e2⟩ := id I
  exact ⟨h1, no b o e1 h2, v, hC I⟩

/-- a call told by its contract, among an expression's trees -/
theorem OpL_Cal {f : Value} {as : List AV} {k : AV → St → Prop} (h : Cal c N f as (fun a hp' => k a ⟨st.loc, hp'⟩) st.hp) : OpL c N ow env (fun vs => call f vs) as k st := fun A P s vs R H F V =>
  wpAny_mono (h.strong R H V) (fun v s' ⟨⟨av, hp', H', V', E, q, HA⟩, _, T⟩ => ⟨av, ⟨st.loc, hp'⟩, H', F.after H HA, V', E, q⟩) fun _ _ x => x

theorem Ev_Call {id : Str} {p pos : Pos} {e : Expr} {rest : List Expr} {f : Value} {k : AV → St → Prop} (hn : ∀ A (s : Shared) (Q : Value → Shared → Prop), (∀ b o, c.h₀.get? b = some o → s.heap.get? b = some o) → Q f s → wpAny c.M A (eval (.Name id p) env) Q NoE s)
    (hk : ∀ h, c.K.In h → ∃ k, (k = Keeper.frame ∨ k = Keeper.machine ∨ k = Keeper.boundFrame) ∧ Looks c.M h (keeperOf f) k)
    (h : Evs c N ow env (spliced (backTo pos (starEach (e :: rest) env))) (fun as st₁ => OpL c N ow env (fun vs => call f vs) as k st₁) st)
    (he : starEach (e :: rest) env = (false, eval e env) :: starEach rest env := by rfl) (hplain : (backTo pos (starEach rest env)).any (·.1) = false := by rfl) : Ev c N ow env (eval (.Call (.Name id p) (e :: rest) [] pos) env) k st := fun A P s R H F =>
  wpAny_Call_Name_kw (hn A s _ H.keep (callWith_any (c := c) (PP := c.K.In) hk (h.then R H F fun vs s₁ as st₁ H₁ F₁ V₁ E₁ q _ _ => ⟨H₁.X, wpAny_mono (q A P s₁ vs R H₁ F₁ V₁) (fun _ _ x => x.ext E₁) fun _ _ x => x⟩) he hplain))

/-- a def or a class of the text -/
theorem Ev_CallF {id : Str} {p pos : Pos} {e : Expr} {rest : List Expr} {f : Addr} {k : AV → St → Prop} (ok : EnvOk env) (hl : env.kindOf id = some .globalImplicit) (hg : nsIn c.K mainGlobals id = some (some (.ref f))) (hk : keepIn c.K (.ref f) = true)
    (h : Evs c N ow env (spliced (backTo pos (starEach (e :: rest) env))) (fun as st₁ => Cal c N (.ref f) as (fun a hp' => k a ⟨st₁.loc, hp'⟩) st₁.hp) st) (hd : (id == ("__debug__" : Str)) = false := by decide)
    (he : starEach (e :: rest) env = (false, eval e env) :: starEach rest env := by rfl) (hplain : (backTo pos (starEach rest env)).any (·.1) = false := by rfl) : Ev c N ow env (eval (.Call (.Name id p) (e :: rest) [] pos) env) k st :=
  Ev_Call (fun A s Q k q => wp_glob ok hl hg k q hd) (keeps_K hk) (fun A P s R H F => wpAny_mono (h A P s R H F) (fun _ _ ⟨as, st', h1, h2, h3, h4, h5⟩ => ⟨as, st', h1, h2, h3, h4, OpL_Cal h5⟩) fun _ _ x => x) he hplain
/-- a built-in or a type -/
theorem Ev_CallB {id : Str} {p pos : Pos} {e : Expr} {rest : List Expr} {f : Value} {k : AV → St → Prop} (ok : EnvOk env) (hl : env.kindOf id = some .globalImplicit) (hg : nsIn c.K mainGlobals id = some none) (hb : bootBuiltins id = some f) (hf : plainF f = true)
    (h : Evs c N ow env (spliced (backTo pos (starEach (e :: rest) env))) (fun as st₁ => OpL c N ow env (fun vs => call f vs) as k st₁) st) (hn : id ≠ "__name__" := by decide) (hd : (id == ("__debug__" : Str)) = false := by decide)
    (he : starEach (e :: rest) env = (false, eval e env) :: starEach rest env := by rfl) (hplain : (backTo pos (starEach rest env)).any (·.1) = false := by rfl) : Ev c N ow env (eval (.Call (.Name id p) (e :: rest) [] pos) env) k st :=
  Ev_Call (fun A s Q k q => wp_builtin ok hl hg hb k q hn hd) (fun h _ => plainF_keeps hf h) h he hplain

-- methods
/-- what a look for a method gives: the function, the receiver -/
def Mth (c : Cx) (N : Nat) (ow : List Addr) (env : Env) (name : Str) (ov : AV) (f : Value) (st : St) : Prop :=
  ∀ A P s v pl (Q : Value × List Value → Shared → Prop), Room N A → HR c P st.hp s.heap → FR P ow env st s.heap → VR P.x s.heap v ov → Q (f, [v]) s → wpAny c.M A (getMethod v name pl) Q NoE s
theorem Ev_Meth {o : Expr} {name : Str} {apos pos : Pos} {e : Expr} {rest : List Expr} {pl : Sem Bool} {k : AV → St → Prop}
    (h : Ev c N ow env (eval o env) (fun a st₁ => ∃ f, Mth c N ow env name a f st₁ ∧ (∀ h, c.K.In h → ∃ k, (k = Keeper.frame ∨ k = Keeper.machine ∨ k = Keeper.boundFrame) ∧ Looks c.M h (keeperOf f) k) ∧
      Evs c N ow env (spliced (backTo pos (starEach (e :: rest) env))) (fun as st₂ => OpL c N ow env (fun vs => call f vs) (a :: as) k st₂) st₁) st)
    (he' : eval (.Call (.Attribute o name apos) (e :: rest) [] pos) env = (do
      let ov ← eval o env
      standAt apos.atName
      let (f, first) ← holding [ov] (getMethod ov name pl)
      callWith pos f first (backTo pos (starEach (e :: rest) env)) (backToKw pos (keywordEach [] env))) := by rfl)
    (he : starEach (e :: rest) env = (false, eval e env) :: starEach rest env := by rfl) (hplain : (backTo pos (starEach rest env)).any (·.1) = false := by rfl) : Ev c N ow env (eval (.Call (.Attribute o name apos) (e :: rest) [] pos) env) k st := fun A P s R H F =>
  methodCall_KW (h.then R H F fun v s₁ a st₁ H₁ F₁ V₁ E₁ ⟨f, hm, hk, q⟩ _ _ => hm A P s₁ v pl _ R H₁ F₁ V₁
    (callWith_any (c := c) (PP := c.K.In) hk (q.then R H₁ F₁ fun vs s₂ as st₂ H₂ F₂ V₂ E₂ q₂ T₂ _ => ⟨H₂.X, wpAny_mono (q₂ A P s₂ (v :: vs) R H₂ F₂ (.cons (V₁.mono T₂) V₂)) (fun _ _ x => (x.ext E₂).ext E₁) fun _ _ x => x⟩) he hplain)) he'
theorem Ev_Meth0 {o : Expr} {name : Str} {apos pos : Pos} {pl : Sem Bool} {k : AV → St → Prop}
    (h : Ev c N ow env (eval o env) (fun a st₁ => ∃ f, Mth c N ow env name a f st₁ ∧ (∀ h, c.K.In h → ∃ k, (k = Keeper.frame ∨ k = Keeper.machine ∨ k = Keeper.boundFrame) ∧ Looks c.M h (keeperOf f) k) ∧
      OpL c N ow env (fun vs => call f vs) [a] k st₁) st)
    (he' : eval (.Call (.Attribute o name apos) [] [] pos) env = (do
      let ov ← eval o env
      standAt apos.atName
      let (f, first) ← holding [ov] (getMethod ov name pl)
      callWith pos f first (backTo pos (starEach [] env)) (backToKw pos (keywordEach [] env))) := by rfl) : Ev c N ow env (eval (.Call (.Attribute o name apos) [] [] pos) env) k st := fun A P s R H F =>
  methodCall_KW (h.then R H F fun v s₁ a st₁ H₁ F₁ V₁ E₁ ⟨f, hm, hk, q⟩ _ _ => hm A P s₁ v pl _ R H₁ F₁ V₁
    (callWith_none (c := c) (PP := c.K.In) hk H₁.X (wpAny_mono (q A P s₁ [v] R H₁ F₁ (.one V₁)) (fun _ _ x => x.ext E₁) fun _ _ x => x))) he'
end
end Mu
end
noncomputable section
open PySem PySem.W PySem.Calls PyProof.Rows
set_option Elab.async false
set_option linter.unusedVariables false

namespace Mu
section
variable {c : Cx} {N : Nat} {ow : List Addr} {env : Env} {st : St}

def KeepBut (wr : List Addr) (h h' : Heap) : Prop := ∀ b o, b ∉ wr → h.get? b = some o → h'.get? b = some o

/-- an iterator's protocol -/
structure Itr (c : Cx) (N : Nat) (target : Expr) (it : Value) (wr : List Addr) (n : Nat) (item : Nat → AV) (ok : AH → Prop) (J : Hid → Nat → Heap → Prop) : Prop where
  keep : ∀ X i h h', J X i h → (∀ b ∈ wr, ∀ o, h.get? b = some o → h'.get? b = some o) → TK X h X h' → J X i h'
  there : ∀ X i h, J X i h → ∀ b ∈ wr, ∃ o, h.get? b = some o ∧ ∀ v, o.data ≠ .cell v
  next : ∀ i A P hp s, i < n → Room N A → HR c P hp s.heap → (∀ b ∈ wr, P.x b) → ok hp → J P.x i s.heap →
    wpAny c.M A (pyNext it) (fun r s₁ => ∃ v, r = some v ∧ wpAny c.M A (letOwnedTupleGo target it v) (fun _ s₂ => And4 (VR P.x s₂.heap v (item i)) (J P.x (i + 1) s₂.heap) (Ext s s₂) (KeepBut wr s.heap s₂.heap)) NoE s₁) NoE s
  done : ∀ A P hp s, Room N A → HR c P hp s.heap → ok hp → J P.x n s.heap → wpAny c.M A (pyNext it) (fun r s₁ => And3 (r = none) (Ext s s₁) (KeepBut wr s.heap s₁.heap)) NoE s
  self : ∀ X i A s (Q : Value → Shared → Prop) (E : Value → Shared → Prop), J X i s.heap → Q it s → wpAny c.M A (pyIter it) Q E s

def Pt.hide (P : Pt) (wr : List Addr) : Pt := ⟨P.p, fun a => P.x a ∨ a ∈ wr⟩

/-- a for's source, evaluated and asked for its iterator -/
def Src (c : Cx) (N : Nat) (ow : List Addr) (env : Env) (target : Expr) (t : Sem Value) (K : Nat → (Nat → AV) → (AH → Prop) → St → Prop) (st : St) : Prop :=
  ∀ A P s, Room N A → HR c P st.hp s.heap → FR P ow env st s.heap → wpAny c.M A t (fun x s₁ => wpAny c.M A (pyIter x) (fun it s₂ => ∃ st₁ wr n item ok J, And7 (Itr c N target it wr n item ok J) (HR c (P.hide wr) st₁.hp s₂.heap) (FR (P.hide wr) ow env st₁ s₂.heap) (Ext s s₂) (J (P.hide wr).x 0 s₂.heap) (∀ b ∈ wr, P.p b = none ∧ st₁.hp b = none ∧ b ≠ env.locals ∧ b ∉ ow ∧ ¬ P.x b) (K n item ok st₁)) NoE s₁) NoE s

open Classical in
/-- protect the iterator's own objects too -/
noncomputable def Pt.lock (P : Pt) (wr : List Addr) (h : Heap) : Pt := ⟨fun b => if b ∈ wr then h.get? b else P.p b, P.x⟩

theorem Itr.some {target : Expr} {it : Value} {wr : List Addr} {n : Nat} {item : Nat → AV} {ok : AH → Prop} {J : Hid → Nat → Heap → Prop} (W : Itr c N target it wr n item ok J) {X : Hid} {i : Nat} {h : Heap} (j : J X i h) : ∀ b ∈ wr, ∃ o, h.get? b = some o :=
  fun b hb => let ⟨o, e, _⟩ := W.there X i h j b hb; ⟨o, e⟩
theorem Itr.notCell {target : Expr} {it : Value} {wr : List Addr} {n : Nat} {item : Nat → AV} {ok : AH → Prop} {J : Hid → Nat → Heap → Prop} (W : Itr c N target it wr n item ok J) {X : Hid} {i : Nat} {h : Heap} (j : J X i h) : ∀ b ∈ wr, ∀ v, ¬ h.IsCell b v :=
  fun b hb v ⟨o', e1, e2⟩ => by obtain ⟨o, e, q⟩ := W.there X i h j b hb; rw [e] at e1; cases e1; exact q v e2
theorem tk_but {X : Hid} {wr : List Addr} {h h' : Heap} (hx : ∀ b ∈ wr, X b) (k : KeepBut wr h h') : TK X h X h' := fun a vs n x e => ⟨x, k a _ (fun q => x (hx a q)) e⟩
theorem HR.but {P : Pt} {hp : AH} {wr : List Addr} {h h' : Heap} (H : HR c P hp h) (hx : ∀ b ∈ wr, P.x b) (hw : ∀ b ∈ wr, P.p b = none ∧ hp b = none) (ht : ∀ b ∈ wr, ∃ o, h'.get? b = some o) (k : KeepBut wr h h') : HR c P hp h' where
  prot := fun b o e => k b o (fun q => by rw [(hw b q).1] at e; cases e) (H.prot b o e)
  base := H.base
  objs := fun a o e => ⟨(H.objs a o e).1, (H.objs a o e).2.mono (tk_but hx k) fun ob q => k a ob (fun z => by rw [(hw a z).2] at e; cases e) q⟩
  hid := fun a x => by
    by_cases q : a ∈ wr
    · exact ht a q
    · obtain ⟨o, e⟩ := H.hid a x; exact ⟨o, k a o q e⟩
  hi := H.hi
theorem FR.but {P : Pt} {wr : List Addr} {h h' : Heap} (F : FR P ow env st h) (hx : ∀ b ∈ wr, P.x b) (hL : env.locals ∉ wr) (hc : ∀ b ∈ wr, ∀ v, ¬ h.IsCell b v) (k : KeepBut wr h h') : FR P ow env st h' := by
  have hC : ∀ {cx : Addr} {v : Option Value}, h.IsCell cx v → h'.IsCell cx v := fun {cx v} I => let ⟨o, e1, e2⟩ := id I; ⟨o, k cx o (fun q => hc cx q v I) e1, e2⟩
  have T : TK P.x h P.x h' := tk_but hx k
  obtain ⟨m, hn, hm⟩ := F.ns
  exact ⟨⟨m, let ⟨o, es, ep, e, r⟩ := hn; ⟨o, es, ep, k _ _ hL e, r⟩, fun x av e l => let ⟨v, e1, V⟩ := hm x av e l; ⟨v, e1, V.mono T⟩⟩, fun x av e l => let ⟨cx, v, e1, I, V⟩ := F.cl x av e l; ⟨cx, v, e1, hC I, V.mono T⟩, F.own,
    fun b hb => let ⟨h1, h2, v, I⟩ := F.ows b hb; ⟨h1, h2, v, hC I⟩, fun x cx e => let ⟨v, I⟩ := F.cls x cx e; ⟨v, hC I⟩⟩

theorem HR.lock {P : Pt} {hp : AH} {wr : List Addr} {h : Heap} (H : HR c P hp h) (hw : ∀ b ∈ wr, P.p b = none ∧ hp b = none) : HR c (P.lock wr h) hp h where
  prot := fun b o e => by
    simp only [Pt.lock] at e
    split at e
    · exact e
    · exact H.prot b o e
  base := fun b o e => by
    have h1 := H.base b o e
    simp only [Pt.lock]
    rw [if_neg (fun q => by rw [(hw b q).1] at h1; cases h1)]
    exact h1
  objs := fun a o e => ⟨by simp only [Pt.lock]; rw [if_neg (fun q => by rw [(hw a q).2] at e; cases e)]; exact (H.objs a o e).1, (H.objs a o e).2⟩
  hid := H.hid
  hi := H.hi
theorem FR.lock {P : Pt} {wr : List Addr} {h : Heap} (F : FR P ow env st h) (hL : env.locals ∉ wr) (ho : ∀ b ∈ wr, b ∉ ow) : FR (P.lock wr h) ow env st h where
  ns := F.ns
  cl := F.cl
  own := ⟨by simp only [Pt.lock]; rw [if_neg hL]; exact F.own.1, F.own.2⟩
  ows := fun a ha => ⟨by simp only [Pt.lock]; rw [if_neg (fun q => ho a q ha)]; exact (F.ows a ha).1, (F.ows a ha).2⟩
  cls := F.cls
theorem HR.unlock {P : Pt} {hp hp' : AH} {wr : List Addr} {h h' : Heap} (H : HR c P hp h) (hw : ∀ b ∈ wr, P.p b = none) (H' : HR c (P.lock wr h) hp' h') : HR c P hp' h' where
  prot := fun b o e => H'.prot b o (by simp only [Pt.lock]; rw [if_neg (fun q => by rw [hw b q] at e; cases e)]; exact e)
  base := H.base
  objs := fun a o e => by
    refine ⟨?_, (H'.objs a o e).2⟩
    have h1 := (H'.objs a o e).1
    simp only [Pt.lock] at h1
    split at h1
    · exact hw a ‹_›
    · exact h1
  hid := H'.hid
  hi := H'.hi
theorem HR.locked {P : Pt} {hp' : AH} {wr : List Addr} {h h' : Heap} (H' : HR c (P.lock wr h) hp' h') : ∀ b ∈ wr, ∀ o, h.get? b = some o → h'.get? b = some o := fun b hb o e =>
  H'.prot b o (by simp only [Pt.lock]; rw [if_pos hb]; exact e)
theorem HR.lockNone {P : Pt} {hp' : AH} {wr : List Addr} {h h' : Heap} (H' : HR c (P.lock wr h) hp' h') (ht : ∀ b ∈ wr, ∃ o, h.get? b = some o) : ∀ b ∈ wr, hp' b = none := fun b hb => by
  obtain ⟨o, e⟩ := ht b hb
  exact H'.none_of (b := b) (o := o) (by simp only [Pt.lock]; rw [if_pos hb]; exact e)
theorem FR.unlock {P : Pt} {wr : List Addr} {h h' : Heap} {st' : St} (F : FR P ow env st h) (F' : FR (P.lock wr h) ow env st' h') : FR P ow env st' h' where
  ns := F'.ns
  cl := F'.cl
  own := ⟨F.own.1, F'.own.2⟩
  ows := fun a ha => ⟨(F.ows a ha).1, (F'.ows a ha).2⟩
  cls := F'.cls

theorem tk_hide {P : Pt} {wr : List Addr} {h : Heap} : TK (P.hide wr).x h P.x h := fun a vs n x e => ⟨fun q => x (.inl q), e⟩
theorem HR.unhide {P : Pt} {hp : AH} {wr : List Addr} {h : Heap} (H : HR c (P.hide wr) hp h) : HR c P hp h where
  prot := H.prot
  base := H.base
  objs := fun a o e => ⟨(H.objs a o e).1, (H.objs a o e).2.mono tk_hide fun _ q => q⟩
  hid := fun a x => H.hid a (.inl x)
  hi := H.hi
theorem FR.unhide {P : Pt} {wr : List Addr} {h : Heap} (F : FR (P.hide wr) ow env st h) : FR P ow env st h where
  ns := let ⟨m, hn, hm⟩ := F.ns; ⟨m, hn, fun x av e l => let ⟨v, e1, V⟩ := hm x av e l; ⟨v, e1, V.mono tk_hide⟩⟩
  cl := fun x av e l => let ⟨cx, v, e1, I, V⟩ := F.cl x av e l; ⟨cx, v, e1, I, V.mono tk_hide⟩
  own := F.own
  ows := F.ows
  cls := F.cls
/-- hide what no known tuple is -/
theorem HR.hide {P : Pt} {hp : AH} {wr : List Addr} {h : Heap} (H : HR c P hp h) (ht : ∀ b ∈ wr, (∃ o, h.get? b = some o) ∧ ∀ vs n, ¬ IsT h b vs n) : HR c (P.hide wr) hp h where
  prot := H.prot
  base := H.base
  objs := fun a o e => ⟨(H.objs a o e).1, (H.objs a o e).2.mono (fun a vs n x e => ⟨fun q => q.elim x fun q => (ht a q).2 vs n e, e⟩) fun _ q => q⟩
  hid := fun a x => x.elim (H.hid a) fun q => (ht a q).1
  hi := H.hi
theorem FR.hide {P : Pt} {wr : List Addr} {h : Heap} (F : FR P ow env st h) (ht : ∀ b ∈ wr, ∀ vs n, ¬ IsT h b vs n) : FR (P.hide wr) ow env st h := by
  have T : TK P.x h (P.hide wr).x h := fun a vs n x e => ⟨fun q => q.elim x fun q => ht a q vs n e, e⟩
  exact ⟨let ⟨m, hn, hm⟩ := F.ns; ⟨m, hn, fun x av e l => let ⟨v, e1, V⟩ := hm x av e l; ⟨v, e1, V.mono T⟩⟩, fun x av e l => let ⟨cx, v, e1, I, V⟩ := F.cl x av e l; ⟨cx, v, e1, I, V.mono T⟩, F.own, F.ows, F.cls⟩

/-- the iterator is done: what is left of it is none of ours -/
theorem HR.leave {P : Pt} {hp : AH} {wr : List Addr} {h h' : Heap} (H : HR c (P.hide wr) hp h) (hw : ∀ b ∈ wr, P.p b = none ∧ hp b = none ∧ ¬ P.x b) (k : KeepBut wr h h') : HR c P hp h' where
  prot := fun b o e => k b o (fun q => by rw [(hw b q).1] at e; cases e) (H.prot b o e)
  base := H.base
  objs := fun a o e => ⟨(H.objs a o e).1, (H.objs a o e).2.mono (fun a vs n x e => ⟨fun q => x (.inl q), k a _ (fun q => x (.inr q)) e⟩) fun ob q => k a ob (fun z => by rw [(hw a z).2.1] at e; cases e) q⟩
  hid := fun a x => let ⟨o, e⟩ := H.hid a (.inl x); ⟨o, k a o (fun q => (hw a q).2.2 x) e⟩
  hi := H.hi
theorem FR.leave {P : Pt} {wr : List Addr} {h h' : Heap} (F : FR (P.hide wr) ow env st h) (hL : env.locals ∉ wr) (hc : ∀ b ∈ wr, ∀ v, ¬ h.IsCell b v) (k : KeepBut wr h h') : FR P ow env st h' :=
  (F.but (fun b hb => .inr hb) hL hc k).unhide
theorem noE_passes {A : Around} {M : Model} : PassesOwn M A env NoE := fun _ _ x => x.elim

/-- a for over a source -/
theorem Ex_For {target iter : Expr} {body : List Stmt} {pos : Pos} {k : AF → St → Prop}
    (h : Src c N ow env target (eval iter env) (fun n item ok st₁ => ∃ I : Nat → St → Prop, And3 (I 0 st₁) (∀ i st, i < n → I i st → ok st.hp ∧ Un1 c N ow env (assign target env) (item i) (fun st' => Ex c N ow env (execs body env) (fun f st'' => match f with | .next => I (i + 1) st'' | .ret v => k (.ret v) st'') st') st) (∀ st, I n st → ok st.hp ∧ k .next st)) st)
    (hs : ∀ x, foldedSetIterable iter env x = pure x := by intro _; rfl) : Ex c N ow env (exec (.For target iter body [] pos) env) k st := fun A P s R H F => by
  refine wpAny_For (wpAny_mono (h A P s R H F) (fun x s₁ h₁ => wpAny_mono h₁ (fun it s₂ h₂ => ?_) fun _ _ x => x) fun _ _ x => x) hs
  obtain ⟨st₁, wr, n, item, ok, J, W, H₂, F₂, E₂, hJ, hw, I, hI, turn, fin⟩ := h₂
  have hx : ∀ b ∈ wr, (P.hide wr).x b := fun b hb => .inr hb
  refine codeAny_forLoop_any (fun m s' => ∃ i stx, And8 (HR c (P.hide wr) stx.hp s'.heap) (FR (P.hide wr) ow env stx s'.heap) (Ext s s') (J (P.hide wr).x i s'.heap) (I i stx) (i ≤ n) (m = n - i) (∀ b ∈ wr, stx.hp b = none)) ?_ n
    ⟨0, st₁, H₂, F₂, E₂, hJ, hI, Nat.zero_le _, (Nat.sub_zero _).symm, fun b hb => (hw b hb).2.1⟩
  rintro m s' ⟨i, stx, Hx, Fx, Ex', Jx, Ix, hin, rfl, hnx⟩
  have hL : env.locals ∉ wr := fun q => (hw _ q).2.2.1 rfl
  by_cases hlt : i < n
  · obtain ⟨hok, body⟩ := turn i stx hlt Ix
    refine wpAny_mono (W.next i A (P.hide wr) stx.hp s' hlt R Hx hx hok Jx) (fun r s₁ ⟨v, e, h₁⟩ => ?_) fun _ _ x => x.elim
    subst e
    refine wpAny_mono h₁ (fun _ s₂ ⟨V, Jn, E₁, k₁⟩ => ?_) fun _ _ x => x.elim
    have H2 : HR c (P.hide wr) stx.hp s₂.heap := Hx.but hx (fun b hb => ⟨(hw b hb).1, hnx b hb⟩) (W.some Jn) k₁
    have F2 : FR (P.hide wr) ow env stx s₂.heap := Fx.but hx hL (W.notCell Jx) k₁
    have HL := H2.allF (L := env.locals) (ow := ow) F2.own.1 fun a ha => (F2.ows a ha).1
    refine wpAny_mono (body A _ s₂ v R HL F2.pf V) (fun _ s₃ ⟨st₃, H₃, F₃, E₃, q₃⟩ => ?_) fun _ _ x => x.elim
    refine wpAny_mono (q₃ A _ s₃ R H₃ F₃) (fun f s₄ ⟨af, st₄, H₄, F₄, V₄, E₄, q₄⟩ => ?_) fun _ _ x => x.elim
    have K4 := H₄.keepsF
    have T4 := tk_of H2 F2 K4
    have H4 := H2.backF F2.own.1 (fun a ha => (F2.ows a ha).1) H₄
    have F4 := F2.pb F₄ rfl
    have E4 : Ext s s₄ := Ex'.trans (E₁.trans (E₃.trans E₄))
    have gone : ∀ b ∈ wr, st₄.hp b = none := fun b hb => by
      obtain ⟨o, e⟩ := W.some Jn b hb
      exact H₄.none_of (b := b) (o := o) (by
        simp only [PFr, pFr, pAll]; rw [if_neg (by rintro (q | q); exact (hw b hb).2.2.1 q; exact (hw b hb).2.2.2.1 q), hnx b hb]; exact e)
    cases f with
    | next =>
      have e : af = .next := V₄
      subst e
      exact ⟨n - (i + 1), by omega, i + 1, st₄, H4, F4, E4, W.keep _ _ _ _ Jn (fun b hb o e => K4 b o e (hnx b hb) (hw b hb).2.2.1 (hw b hb).2.2.2.1) T4, q₄, hlt, rfl, gone⟩
    | ret v =>
      obtain ⟨av, rfl, V⟩ := V₄
      exact ⟨_, st₄, H4.unhide, F4.unhide, ⟨av, rfl, V.mono tk_hide⟩, E4, q₄⟩
    | brk => exact V₄.elim
    | cont => exact V₄.elim
  · obtain rfl : i = n := Nat.le_antisymm hin (Nat.not_lt.mp hlt)
    obtain ⟨hok, q⟩ := fin stx Ix
    refine wpAny_mono (W.done A (P.hide wr) stx.hp s' R Hx hok Jx) (fun r s₁ ⟨e, E₁, k₁⟩ => ?_) fun _ _ x => x.elim
    subst e
    exact wpAny_execs_nil ⟨.next, stx, Hx.leave (fun b hb => ⟨(hw b hb).1, hnx b hb, (hw b hb).2.2.2.2⟩) k₁, Fx.leave hL (W.notCell Jx) k₁, rfl, Ex'.trans E₁, q⟩

theorem letGo_other {target : Expr} {I : Addr} {v : Value} {o : Obj} {A : Around} {s : Shared} {Q : Unit → Shared → Prop} {E : Value → Shared → Prop} {M : Model} (ho : s.heap.get? I = some o) (hc : ∃ T, o.cls = .type T ∧ ["enumerate", "zip", "dict_itemiterator", "dict_reverseitemiterator", "odict_iterator", "itertools.zip_longest", "itertools.pairwise"].contains T = false)
    (h : Q () s) : wpAny M A (letOwnedTupleGo target (.ref I) v) Q E s := by
  obtain ⟨T, hT, hn⟩ := hc
  obtain ⟨oc, od, oda, osl⟩ := o
  have hT : oc = .type T := hT
  subst hT
  cases target
  case Tuple | List =>
    cases v with
    | ref a =>
      show wpAny _ _ (load I >>= fun o => _) _ _ _
      refine wpAny_bind (wpAny_load ho ?_)
      cases oda with
      | fields vs =>
        dsimp only
        rw [hn]
        exact wpAny_pure h
      | _ => exact wpAny_pure h
    | _ => exact wpAny_pure h
  all_goals exact wpAny_pure h

theorem notT_cls {h : Heap} {b : Addr} {o : Obj} (e : h.get? b = some o) (hc : o.cls ≠ .type "tuple") : ∀ vs n, ¬ IsT h b vs n := fun vs n q => by
  have q' : h.get? b = some _ := q
  rw [e] at q'; cases q'; exact hc rfl

/-- a fresh iterator hides no known thing -/
theorem fresh_wr {P : Pt} {h : Heap} (H : HR c P st.hp h) (F : FR P ow env st h) : P.p h.objs.size = none ∧ st.hp h.objs.size = none ∧ h.objs.size ≠ env.locals ∧ h.objs.size ∉ ow ∧ ¬ P.x h.objs.size := by
  refine ⟨?_, H.fresh, Nat.ne_of_gt F.lt, fun q => ?_, H.notHid⟩
  · cases q : P.p h.objs.size with
    | none => rfl
    | some o => exact absurd (Heap.lt_size (H.prot _ _ q)) (Nat.lt_irrefl _)
  · obtain ⟨_, _, v, I⟩ := F.ows _ q; exact absurd I.lt (Nat.lt_irrefl _)

theorem li_ne : Value.type "list_iterator" ≠ Value.type "tuple" := by decide
theorem ri_ne : Value.type "range_iterator" ≠ Value.type "tuple" := by decide

theorem itr_list {target : Expr} {I l : Addr} {items : List AV} : Itr c N target (.ref I) [I] items.length (fun i => items.getD i .none) (fun hp => hp l = some (.list items)) (fun _ i h => h.IsListIter I l i) where
  keep := fun X i h h' J k _ => J.at fun o e => k I (by simp) o e
  there := fun X i h J b hb => by
    obtain rfl := List.mem_singleton.mp hb
    obtain ⟨o, e, _, d⟩ := J
    exact ⟨o, e, fun v q => by rw [d] at q; cases q⟩
  next := fun i A P hp s hi R H hx hok J => by
    obtain ⟨vs, m, hl, V, _⟩ := (H.objs l _ hok).2
    have hg : items[i]? = some (items.getD i .none) := by rw [List.getD_eq_getElem?_getD, List.getElem?_eq_getElem hi]; rfl
    obtain ⟨v, e, Vv⟩ := V.get hg
    refine wpAny_pyNext_list_item J hl.isList (x := v) (by simpa using e) fun h' J' hs' => ⟨v, rfl, ?_⟩
    obtain ⟨o, e1, e2, e3⟩ := id J'
    have K : KeepBut [I] s.heap h' := fun b o hb e => (hs'.2 b (fun q => hb (by simp [q]))).trans e
    exact letGo_other e1 ⟨_, e2, by decide⟩ ⟨Vv.mono (tk_but hx K), J', ⟨_, _, rfl⟩, K⟩
  done := fun A P hp s R H hok J => by
    obtain ⟨vs, m, hl, V, _⟩ := (H.objs l _ hok).2
    exact wpAny_pyNext_list_end R.1 J hl.isList (by rw [List.getElem?_toArray, List.getElem?_eq_none]; rw [V.length]; exact Nat.le_refl _) fun h' he => ⟨rfl, ⟨_, _, rfl⟩, fun b o hb e => he b o (fun q => hb (by simp [q])) e⟩
  self := fun X i A s Q E J q => wpAny_pyIter_listiter J q

theorem Src_list {target : Expr} {t : Sem Value} {K : Nat → (Nat → AV) → (AH → Prop) → St → Prop}
    (h : Ev c N ow env t (fun a st₁ => ∃ l items, And3 (a = .ref l) (st₁.hp l = some (.list items)) (K items.length (fun i => items.getD i .none) (fun hp => hp l = some (.list items)) st₁)) st) : Src c N ow env target t K st := fun A P s R H F =>
  h.then R H F fun v s₁ a st₁ H₁ F₁ V₁ E₁ ⟨l, items, e, ho, q⟩ _ _ => by
    subst e
    apply V₁.rf
    obtain ⟨vs, m, hl, V, _⟩ := (H₁.objs l _ ho).2
    refine wpAny_pyIter_list hl.isList ?_
    have hg : (s₁.heap.push { cls := .type "list_iterator", data := .fields #[.ref l, .int 0 0] }).get? s₁.heap.objs.size = some { cls := .type "list_iterator", data := .fields #[.ref l, .int 0 0] } := Heap.get?_push_size _ rfl
    have ht : ∀ b ∈ [s₁.heap.objs.size], (∃ o, (s₁.heap.push { cls := .type "list_iterator", data := .fields #[.ref l, .int 0 0] }).get? b = some o) ∧ ∀ vs n, ¬ IsT (s₁.heap.push { cls := .type "list_iterator", data := .fields #[.ref l, .int 0 0] }) b vs n := fun b hb => by
      obtain rfl := List.mem_singleton.mp hb
      exact ⟨⟨_, hg⟩, notT_cls hg li_ne⟩
    exact ⟨st₁, [s₁.heap.objs.size], _, _, _, _, itr_list (l := l) (items := items), (H₁.push _).hide ht, (F₁.push _).hide (fun b hb => (ht b hb).2), E₁.trans ⟨_, _, rfl⟩, ⟨_, hg, rfl, rfl⟩,
      fun b hb => by obtain rfl := List.mem_singleton.mp hb; exact fresh_wr H₁ F₁, q⟩

theorem itr_range {target : Expr} {I : Addr} {n : Nat} : Itr c N target (.ref I) [I] n (fun i => .int i) (fun _ => True) (fun _ i h => IsRangeIter h I (i : Nat) ((n : Int) - (i : Nat)) 1) where
  keep := fun X i h h' J k _ => k I (by simp) _ J
  there := fun X i h J b hb => by
    obtain rfl := List.mem_singleton.mp hb
    exact ⟨_, J, fun v q => by cases q⟩
  next := fun i A P hp s hi R H hx hok J => by
    refine wpAny_pyNext_range_item J (by omega) fun h' J' hs' => ⟨_, rfl, ?_⟩
    have K : KeepBut [I] s.heap h' := fun b o hb e => (hs'.2 b (fun q => hb (by simp [q]))).trans e
    have J2 : IsRangeIter h' I ((i + 1 : Nat) : Int) ((n : Int) - ((i + 1 : Nat) : Int)) 1 := by
      have e1 : ((i + 1 : Nat) : Int) = (i : Int) + 1 := by omega
      have e2 : (n : Int) - ((i + 1 : Nat) : Int) = (n : Int) - (i : Nat) - 1 := by omega
      rw [e2, e1]; exact J'
    exact letGo_other J' ⟨_, rfl, by decide⟩ ⟨.int _ _, J2, ⟨_, _, rfl⟩, K⟩
  done := fun A P hp s R H hok J =>
    wpAny_pyNext_range_end R.1 J (by omega) fun h' he => ⟨rfl, ⟨_, _, rfl⟩, fun b o hb e => he b o (fun q => hb (by simp [q])) e⟩
  self := fun X i A s Q E J q => wpAny_pyIter_rangeiter J q

theorem Src_range {target : Expr} {p pos : Pos} {e : Expr} {K : Nat → (Nat → AV) → (AH → Prop) → St → Prop} (ok : EnvOk env) (hl : env.kindOf "range" = some .globalImplicit) (hg : nsIn c.K mainGlobals "range" = some none)
    (h : Ev c N ow env (eval e env) (fun a st₁ => ∃ n : Nat, And3 (a = .int n) (n ≤ 100000) (K n (fun i => .int i) (fun _ => True) st₁)) st)
    (he : starEach [e] env = (false, eval e env) :: starEach [] env := by rfl) : Src c N ow env target (eval (.Call (.Name "range" p) [e] [] pos) env) K st := fun A P s R H F =>
  wpAny_Call_Name_kw (wp_builtin (v := .type "range") ok hl hg rfl H.keep (callWith_any (c := c) (PP := fun _ => True) (fun h _ => plainF_keeps rfl h) (wpAny_items_cons (h.then R H F fun v s₁ a st₁ H₁ F₁ V₁ E₁ ⟨n, e, hn, q⟩ _ _ => wpAny_items_nil ⟨trivial, by
    subst e
    apply V₁.rI; intro t
    refine call_range_1 ?_
    refine wpAny_pyIter_range (IsRange.new s₁.heap 0 n 1 _ _ _) (small_one (by omega) (by omega) (by omega) (by omega)) ?_
    have hz : Builtin.Range.rangeSize 0 n 1 = (n : Int) - ((0 : Nat) : Int) := by rw [rangeSize_one]; split <;> omega
    rw [hz]
    dsimp only
    generalize hh : s₁.heap.push _ = h1
    have H1 : HR c P st₁.hp h1 := hh ▸ H₁.push _
    have F1 : FR P ow env st₁ h1 := hh ▸ F₁.push _
    have hg : (h1.push { cls := .type "range_iterator", data := .fields #[rawInt 0, rawInt ((n : Int) - ((0 : Nat) : Int)), rawInt 1] }).get? h1.objs.size = some { cls := .type "range_iterator", data := .fields #[rawInt 0, rawInt ((n : Int) - ((0 : Nat) : Int)), rawInt 1] } := Heap.get?_push_size _ rfl
    have ht : ∀ b ∈ [h1.objs.size], (∃ o, (h1.push { cls := .type "range_iterator", data := .fields #[rawInt 0, rawInt ((n : Int) - ((0 : Nat) : Int)), rawInt 1] }).get? b = some o) ∧ ∀ vs n', ¬ IsT (h1.push { cls := .type "range_iterator", data := .fields #[rawInt 0, rawInt ((n : Int) - ((0 : Nat) : Int)), rawInt 1] }) b vs n' := fun b hb => by
      obtain rfl := List.mem_singleton.mp hb
      exact ⟨⟨_, hg⟩, notT_cls hg ri_ne⟩
    exact ⟨st₁, [h1.objs.size], _, _, _, _, itr_range (n := n), (H1.push _).hide ht, (F1.push _).hide (fun b hb => (ht b hb).2), E₁.trans ⟨_, _, rfl⟩, hg,
      fun b hb => by obtain rfl := List.mem_singleton.mp hb; exact fresh_wr H1 F1, q⟩⟩) he) he))

/-- a while by an invariant and a measure -/
theorem Ex_While {test : Expr} {body : List Stmt} {pos : Pos} {k : AF → St → Prop} (I : Nat → St → Prop) {n : Nat} (h0 : I n st)
    (turn : ∀ n st, I n st → Tst c N ow env (isTrue test env (eval test env)) (fun b st₁ =>
      (b = true → Ex c N ow env (execs body env) (fun f st₂ => match f with | .next => ∃ m, m < n ∧ I m st₂ | .ret v => k (.ret v) st₂) st₁) ∧ (b = false → k .next st₁)) st) : Ex c N ow env (exec (.While test body [] pos) env) k st := fun A P s R H F => by
  refine wpAny_While ?_
  refine codeAny_whileLoop (fun m s' => ∃ stx, And4 (HR c P stx.hp s'.heap) (FR P ow env stx s'.heap) (Ext s s') (I m stx)) ?_ n ⟨st, H, F, .refl _, h0⟩
  rintro m s' ⟨stx, Hx, Fx, Ex', Ix⟩
  refine wpAny_mono (turn m stx Ix A P s' R Hx Fx) (fun b s₁ ⟨st₁, H₁, F₁, E₁, q⟩ => ?_) fun _ _ x => x.elim
  cases b with
  | true =>
    simp only [if_true]
    refine wpAny_mono (q.1 rfl A P s₁ R H₁ F₁) (fun f s₂ ⟨af, st₂, H₂, F₂, V₂, E₂, q₂⟩ => ?_) fun _ _ x => x.elim
    have E' : Ext s s₂ := Ex'.trans (E₁.trans E₂)
    cases f with
    | next =>
      have e : af = .next := V₂
      subst e
      obtain ⟨m', hm, hI⟩ := q₂
      exact ⟨m', hm, st₂, H₂, F₂, E', hI⟩
    | ret v =>
      obtain ⟨av, rfl, V⟩ := V₂
      exact ⟨_, st₂, H₂, F₂, ⟨av, rfl, V⟩, E', q₂⟩
    | brk => exact V₂.elim
    | cont => exact V₂.elim
  | false =>
    simp only [Bool.false_eq_true, if_false]
    exact wpAny_execs_nil ⟨.next, st₁, H₁, F₁, rfl, Ex'.trans E₁, q.2 rfl⟩
end
end Mu
end
noncomputable section
open PySem PySem.W PySem.Calls PyProof.Rows
set_option Elab.async false
set_option linter.unusedVariables false

namespace Mu
section
variable {c : Cx} {N : Nat} {ow : List Addr} {env : Env} {st : St}

-- ints
theorem Op_add {a b : Int} {k : AV → St → Prop} (h : k (.int (a + b)) st) : Op2 c N ow env (binaryOp .Add) (.int a) (.int b) k st := fun A P s v u R H F V W => by
  apply V.rI; intro _
  apply W.rI; intro _
  exact add_int ⟨_, st, H, F, .int _ _, .toks _ _, h⟩
theorem Op_sub {a b : Int} {k : AV → St → Prop} (h : k (.int (a - b)) st) : Op2 c N ow env (binaryOp .Sub) (.int a) (.int b) k st := fun A P s v u R H F V W => by
  apply V.rI; intro _
  apply W.rI; intro _
  exact sub_int ⟨_, st, H, F, .int _ _, .toks _ _, h⟩
theorem Op_mul {a b : Int} {k : AV → St → Prop} (hb : IntMulOk a b) (h : k (.int (a * b)) st) : Op2 c N ow env (binaryOp .Mult) (.int a) (.int b) k st := fun A P s v u R H F V W => by
  apply V.rI; intro _
  apply W.rI; intro _
  exact mul_int ⟨_, st, H, F, .int _ _, .toks _ _, h⟩ hb
theorem Op_fdiv {a b : Int} {k : AV → St → Prop} (h0 : b ≠ 0) (hp : Builtin.divisionGoesByPylong a b = false) (h : k (.int (a.fdiv b)) st) : Op2 c N ow env (binaryOp .FloorDiv) (.int a) (.int b) k st := fun A P s v u R H F V W => by
  apply V.rI; intro _
  apply W.rI; intro _
  exact floordiv_int h0 ⟨_, st, H, F, .int _ _, .toks _ _, h⟩ (.inl hp)
theorem Op_mod {a b : Int} {k : AV → St → Prop} (h0 : b ≠ 0) (h : k (.int (a.fmod b)) st) : Op2 c N ow env (binaryOp .Mod) (.int a) (.int b) k st := fun A P s v u R H F V W => by
  apply V.rI; intro _
  apply W.rI; intro _
  exact mod_int h0 ⟨_, st, H, F, .int _ _, .toks _ _, h⟩
theorem Op_pow {a n : Int} {k : AV → St → Prop} (h0 : 0 ≤ n) (hb : (Builtin.Int.intBits a : Int) * n ≤ 2 ^ 27) (h : k (.int (a ^ n.toNat)) st) : Op2 c N ow env (binaryOp .Pow) (.int a) (.int n) k st := fun A P s v u R H F V W => by
  apply V.rI; intro _
  apply W.rI; intro _
  exact pow_int h0 hb ⟨_, st, H, F, .int _ _, .toks _ _, h⟩
theorem Op_neg {a : Int} {k : AV → St → Prop} (h : k (.int (-a)) st) : Op1 c N ow env (unaryOp .USub) (.int a) k st := fun A P s v R H F V => by
  apply V.rI; intro _
  exact neg_int ⟨_, st, H, F, .int _ _, .toks _ _, h⟩
theorem Op_lt {a b : Int} {k : AV → St → Prop} (h : k (.bool (decide (a < b))) st) : Op2 c N ow env (compareOp .Lt) (.int a) (.int b) k st := fun A P s v u R H F V W => by
  apply V.rI; intro _
  apply W.rI; intro _
  exact lt_int ⟨_, st, H, F, .bool _, .refl _, h⟩
theorem Op_gt {a b : Int} {k : AV → St → Prop} (h : k (.bool (decide (b < a))) st) : Op2 c N ow env (compareOp .Gt) (.int a) (.int b) k st := fun A P s v u R H F V W => by
  apply V.rI; intro _
  apply W.rI; intro _
  exact gt_int ⟨_, st, H, F, .bool _, .refl _, h⟩
theorem Op_ge {a b : Int} {k : AV → St → Prop} (h : k (.bool (decide (b ≤ a))) st) : Op2 c N ow env (compareOp .GtE) (.int a) (.int b) k st := fun A P s v u R H F V W => by
  apply V.rI; intro _
  apply W.rI; intro _
  exact ge_int ⟨_, st, H, F, .bool _, .refl _, h⟩

-- is None
def isN : AV → Bool
  | .none => true
  | _ => false
theorem VR.isN {X : Hid} {h : Heap} {v : Value} {a : AV} (V : VR X h v a) : (v == Value.none) = isN a := by cases V <;> rfl
theorem Op_isNone {a : AV} {k : AV → St → Prop} (h : k (.bool (isN a)) st) : Op2 c N ow env (compareOp .Is) a .none k st := fun A P s v u R H F V W => by
  apply W.rN
  exact is_none (by rw [V.isN]; exact ⟨_, st, H, F, .bool _, .refl _, h⟩)
theorem Op_isNotNone {a : AV} {k : AV → St → Prop} (h : k (.bool (!isN a)) st) : Op2 c N ow env (compareOp .IsNot) a .none k st := fun A P s v u R H F V W => by
  apply W.rN
  exact isNot_none (by rw [V.isN]; exact ⟨_, st, H, F, .bool _, .refl _, h⟩)

-- data: equality
mutual
def toPy : AV → PyData
  | .none => .none
  | .bool b => .bool b
  | .int i => .int i
  | .str x => .str x
  | .tup l => .tuple (toPys l)
  | .ref _ => .none
def toPys : List AV → List PyData
  | [] => []
  | a :: l => toPy a :: toPys l
end
/-- plain data, at most so deep, no bools -/
def dOk : Nat → AV → Bool
  | _, .none => true
  | _, .int _ => true
  | _, .str x => PyData.strOk x
  | n + 1, .tup l => l.all (dOk n)
  | _, _ => false
mutual
def aeq : AV → AV → Bool
  | .none, .none => true
  | .int a, .int b => a == b
  | .str a, .str b => a == b
  | .tup l, .tup m => aeqs l m
  | _, _ => false
def aeqs : List AV → List AV → Bool
  | [], [] => true
  | a :: l, b :: m => aeq a b && aeqs l m
  | _, _ => false
end

theorem reads_of {X : Hid} {h : Heap} : ∀ {v : Value} {a : AV} (n : Nat), VR X h v a → dOk n a = true → ∃ as, Reads h v (toPy a) as
  | _, _, _, .none, _ => ⟨_, Reads.none⟩
  | _, _, n, .bool b, hk => by cases n <;> cases hk
  | _, _, _, .int i t, _ => ⟨_, Reads.int i t⟩
  | _, _, _, .str x t, _ => ⟨_, Reads.str x t⟩
  | _, _, 0, .tup .., hk => by cases hk
  | _, _, n + 1, .tup (l := l) e x r, hk => by
    have all : ∀ {vs : List Value} {l : List AV}, VRs X h vs l → (∀ a ∈ l, dOk n a = true) → ∃ as, ReadsAll h vs (toPys l) as := by
      intro vs
      induction vs with
      | nil => intro l r hk; cases r; exact ⟨_, ReadsAll.nil⟩
      | cons v vs ih =>
        intro l r hk
        cases r with
        | cons r1 r2 =>
          obtain ⟨as, q⟩ := reads_of n r1 (hk _ (.head _))
          obtain ⟨bs, p⟩ := ih r2 fun a ha => hk a (.tail _ ha)
          exact ⟨_, ReadsAll.cons q p⟩
    obtain ⟨as, q⟩ := all r (List.all_eq_true.mp hk)
    rw [toPy]
    exact ⟨as, reads_tuple_at e rfl rfl (by simpa using q)⟩
  | _, _, n, .ref _, hk => by cases n <;> cases hk

theorem lay_of : ∀ (n : Nat) (a : AV), dOk n a = true → (toPy a).canLay0 = true ∧ (toPy a).depth ≤ n
  | _, .none, _ => by simp [toPy, PyData.canLay0, PyData.depth]
  | n, .bool b, hk => by cases n <;> cases hk
  | _, .int i, _ => by simp [toPy, PyData.canLay0, PyData.depth]
  | n, .str x, hk => by
    have hk' : PyData.strOk x = true := by cases n <;> exact hk
    simp [toPy, PyData.canLay0, PyData.depth, hk']
  | 0, .tup .., hk => by cases hk
  | n + 1, .tup l, hk => by
    have all : ∀ (l : List AV), (∀ a ∈ l, dOk n a = true) → PyData.canLayAll0 (toPys l) = true ∧ PyData.depthAll (toPys l) ≤ n := by
      intro l
      induction l with
      | nil => intro _; simp [toPys, PyData.canLayAll0, PyData.depthAll]
      | cons a l ih =>
        intro h
        have h1 := lay_of n a (h a (.head _))
        have h2 := ih fun e he => h e (.tail _ he)
        simp only [toPys, PyData.canLayAll0, PyData.depthAll, h1.1, h2.1, Bool.and_self, true_and]
        have a1 := h1.2
        have a2 := h2.2
        omega
    have q := all l (List.all_eq_true.mp hk)
    have q2 := q.2
    simp only [toPy, PyData.canLay0, PyData.depth, q.1, true_and]
    omega
  | n, .ref _, hk => by cases n <;> cases hk

theorem eqv_aeq : ∀ (n : Nat) (a b : AV) (m : Nat), dOk n a = true → dOk m b = true → PyData.eqv (toPy a) (toPy b) = aeq a b := by
  intro n
  induction n with
  | zero =>
    intro a b m h1 h2
    cases a <;> first | (cases h1; done) | (cases b <;> first | (cases m <;> cases h2; done) | (simp only [toPy, PyData.eqv, aeq]))
  | succ n ih =>
    intro a b m h1 h2
    cases a with
    | tup l =>
      cases b with
      | tup l' =>
        cases m with
        | zero => cases h2
        | succ m =>
          have all : ∀ (l l' : List AV), (∀ a ∈ l, dOk n a = true) → (∀ a ∈ l', dOk m a = true) → PyData.eqvAll (toPys l) (toPys l') = aeqs l l' := by
            intro l
            induction l with
            | nil => intro l' _ _; cases l' <;> simp [toPys, PyData.eqvAll, aeqs]
            | cons a l hi =>
              intro l' h1 h2
              cases l' with
              | nil => simp [toPys, PyData.eqvAll, aeqs]
              | cons b l' =>
                simp only [toPys, PyData.eqvAll, aeqs, ih a b m (h1 a (.head _)) (h2 b (.head _)), hi l' (fun x hx => h1 x (.tail _ hx)) fun x hx => h2 x (.tail _ hx)]
          simp only [toPy, PyData.eqv, aeq]
          exact all l l' (List.all_eq_true.mp h1) (List.all_eq_true.mp h2)
      | _ => first | (cases m <;> cases h2; done) | simp only [toPy, PyData.eqv, aeq]
    | bool b' => cases h1
    | ref a' => cases h1
    | _ => cases b <;> first | (cases m <;> cases h2; done) | (simp only [toPy, PyData.eqv, aeq])

theorem shaped_of {n : Nat} {a : AV} (hn : n ≤ 60) (h : dOk n a = true) : SeqAt.shaped (toPy a) = true := by
  have l := lay_of n a h
  unfold SeqAt.shaped
  rw [l.1, Bool.true_and]
  exact decide_eq_true (by have := l.2; omega)
theorem Op_eq {a b : AV} {k : AV → St → Prop} (ha : dOk 10 a = true) (hb : dOk 10 b = true) (h : k (.bool (aeq a b)) st) : Op2 c N ow env (compareOp .Eq) a b k st := fun A P s v u R H F V W => by
  obtain ⟨as, ra⟩ := reads_of 10 V ha
  obtain ⟨bs, rb⟩ := reads_of 10 W hb
  refine SeqAt.compareEq_shaped ra rb (shaped_of (by decide) ha) (shaped_of (by decide) hb) (by have := R.units; omega) ?_
  rw [eqv_aeq 10 a b 10 ha hb]
  exact ⟨_, st, H, F, .bool _, .refl _, h⟩
theorem Op_ne {a b : AV} {k : AV → St → Prop} (ha : dOk 10 a = true) (hb : dOk 10 b = true) (h : k (.bool (!aeq a b)) st) : Op2 c N ow env (compareOp .NotEq) a b k st := fun A P s v u R H F V W => by
  obtain ⟨as, ra⟩ := reads_of 10 V ha
  obtain ⟨bs, rb⟩ := reads_of 10 W hb
  refine SeqAt.compareNe_shaped ra rb (shaped_of (by decide) ha) (shaped_of (by decide) hb) (by have := R.units; omega) ?_
  rw [eqv_aeq 10 a b 10 ha hb]
  exact ⟨_, st, H, F, .bool _, .refl _, h⟩
/-- two lists of data compared -/
theorem list_reads {X : Hid} {h : Heap} {l : Addr} {items : List AV} (r : OR c X h l (.list items)) (hk : ∀ a ∈ items, dOk 9 a = true) : ∃ as, Reads h (.ref l) (.list (toPys items)) as := by
  obtain ⟨vs, n, e, V, _⟩ := r
  have all : ∀ {vs : List Value} {l : List AV}, VRs X h vs l → (∀ a ∈ l, dOk 9 a = true) → ∃ as, ReadsAll h vs (toPys l) as := by
    intro vs
    induction vs with
    | nil => intro l r hk; cases r; exact ⟨_, ReadsAll.nil⟩
    | cons v vs ih =>
      intro l r hk
      cases r with
      | cons r1 r2 =>
        obtain ⟨as, q⟩ := reads_of 9 r1 (hk _ (.head _))
        obtain ⟨bs, p⟩ := ih r2 fun a ha => hk a (.tail _ ha)
        exact ⟨_, ReadsAll.cons q p⟩
  obtain ⟨as, q⟩ := all V hk
  exact ⟨_, reads_list_at e rfl rfl (by simpa using q)⟩
theorem list_shaped {items : List AV} (hk : ∀ a ∈ items, dOk 9 a = true) : SeqAt.shaped (.list (toPys items)) = true := by
  have l := lay_of 10 (.tup items) (List.all_eq_true.mpr hk)
  simp only [toPy, PyData.canLay0, PyData.depth] at l
  unfold SeqAt.shaped
  simp only [PyData.canLay0, PyData.depth]
  rw [l.1, Bool.true_and]
  exact decide_eq_true (by have := l.2; omega)
theorem list_eqv {l m : List AV} (hl : ∀ a ∈ l, dOk 9 a = true) (hm : ∀ a ∈ m, dOk 9 a = true) : PyData.eqv (.list (toPys l)) (.list (toPys m)) = aeqs l m := by
  have := eqv_aeq 10 (.tup l) (.tup m) 10 (List.all_eq_true.mpr hl) (List.all_eq_true.mpr hm)
  simp only [toPy, PyData.eqv, aeq] at this ⊢
  exact this
theorem Op_eqList {a b : Addr} {l m : List AV} {k : AV → St → Prop} (ha : st.hp a = some (.list l)) (hb : st.hp b = some (.list m)) (hl : ∀ a ∈ l, dOk 9 a = true) (hm : ∀ a ∈ m, dOk 9 a = true) (h : k (.bool (aeqs l m)) st) :
    Op2 c N ow env (compareOp .Eq) (.ref a) (.ref b) k st := fun A P s v u R H F V W => by
  apply V.rf
  apply W.rf
  obtain ⟨as, ra⟩ := list_reads (H.objs a _ ha).2 hl
  obtain ⟨bs, rb⟩ := list_reads (H.objs b _ hb).2 hm
  refine SeqAt.compareEq_shaped ra rb (list_shaped hl) (list_shaped hm) (by have := R.units; omega) ?_
  rw [list_eqv hl hm]
  exact ⟨_, st, H, F, .bool _, .refl _, h⟩
theorem Op_neList {a b : Addr} {l m : List AV} {k : AV → St → Prop} (ha : st.hp a = some (.list l)) (hb : st.hp b = some (.list m)) (hl : ∀ a ∈ l, dOk 9 a = true) (hm : ∀ a ∈ m, dOk 9 a = true) (h : k (.bool (!aeqs l m)) st) :
    Op2 c N ow env (compareOp .NotEq) (.ref a) (.ref b) k st := fun A P s v u R H F V W => by
  apply V.rf
  apply W.rf
  obtain ⟨as, ra⟩ := list_reads (H.objs a _ ha).2 hl
  obtain ⟨bs, rb⟩ := list_reads (H.objs b _ hb).2 hm
  refine SeqAt.compareNe_shaped ra rb (list_shaped hl) (list_shaped hm) (by have := R.units; omega) ?_
  rw [list_eqv hl hm]
  exact ⟨_, st, H, F, .bool _, .refl _, h⟩
end
end Mu
end
noncomputable section
open PySem PySem.W PySem.Calls PyProof.Rows
set_option Elab.async false
set_option linter.unusedVariables false

namespace Mu
section
variable {c : Cx} {N : Nat} {ow : List Addr} {env : Env} {st : St}

theorem F0 {P : Pt} {h : Heap} (F : FR P ow env st h) : ∃ m, h.Ns env.locals m ∧ (∀ x av, st.loc x = some av → env.kindOf x = some .local → ∃ v, m x = some v ∧ VR P.x h v av) ∧ Fr {} env.locals h m := let ⟨m, hn, hm⟩ := F.ns; ⟨m, hn, hm, fr_empty hn⟩

-- tuples
theorem Op_addT {l m : List AV} {k : AV → St → Prop} (hz : l.length + m.length ≤ 1000) (h : k (.tup (l ++ m)) st) : Op2 c N ow env (binaryOp .Add) (.tup l) (.tup m) k st := fun A P s v u R H F V W => by
  apply V.rT; intro a vs n1 hT hx hV
  apply W.rT; intro b ws n2 hU hy hW
  obtain ⟨mm, hn, hm, F₀⟩ := F0 F
  refine add_tuples F₀ news_all ⟨_, hT, rfl, _, rfl⟩ ⟨_, hU, rfl, _, rfl⟩ (fun e => ?_) (fun e1 e2 => ?_) (fun e1 e2 h' F' N' => ?_) (by rw [hV.length, hW.length, sizeLine_eq]; omega)
  · subst e
    cases hV
    exact ⟨_, st, H, F, .tup hU hy hW, .refl _, h⟩
  · subst e2
    cases hW
    rw [List.append_nil] at h
    exact ⟨_, st, H, F, .tup hT hx hV, .refl _, h⟩
  · obtain ⟨H', F'', T⟩ := back0 H F hn hm F' fun p hp => N' p (List.mem_cons_of_mem _ hp)
    exact ⟨_, st, H', F'', .tup (N' _ List.mem_cons_self).1 H.notHid ((hV.append hW).mono T), ⟨_, _, rfl⟩, h⟩

/-- where an index lies -/
theorem seqIx {i : Int} {n : Nat} {j : Nat} (h0 : 0 ≤ i) (hj : i.toNat = j) (hn : j < n) : seqIndex? i n = some j := by
  rw [seqIndex_of h0 (by omega), hj]
def subPlain (slice : Expr) : Prop := ∀ (t : Addr) (i : Value), subscripted slice false (.ref t) i = operate [.ref t, i] (getItem (.ref t) i)

theorem Ev_Sub {value slice : Expr} {pos : Pos} {k : AV → St → Prop}
    (h : Ev c N ow env (eval value env) (fun o st₁ => Ev c N ow env (eval slice env) (fun i st₂ => Op2 c N ow env (fun o i => subscriptTail value slice o i) o i k st₂) st₁) st) : Ev c N ow env (eval (.Subscript value slice pos) env) k st := fun A P s R H F =>
  Subscript_ (h.then R H F fun v s₁ a st₁ H₁ F₁ V₁ E₁ h₁ _ _ => h₁.then R H₁ F₁ fun u s₂ b st₂ H₂ F₂ V₂ E₂ h₂ T₂ _ =>
    wpAny_mono (h₂ A P s₂ v u R H₂ F₂ (V₁.mono T₂) V₂) (fun _ _ x => (x.ext E₂).ext E₁) fun _ _ x => x)
theorem Op_subT {value slice : Expr} {l : List AV} {i : Int} {a : AV} {k : AV → St → Prop} (h0 : 0 ≤ i) (hz : l.length ≤ 1000) (ha : l[i.toNat]? = some a) (h : k a st) (hs : subPlain slice := by intro _ _; with_unfolding_all rfl) :
    Op2 c N ow env (fun o i => subscriptTail value slice o i) (.tup l) (.int i) k st := fun A P s v u R H F V W => by
  apply W.rI; intro _
  apply V.rT; intro t vs n1 hT hx hV
  have hl : i.toNat < l.length := (List.getElem?_eq_some_iff.mp ha).1
  obtain ⟨w, e, Vw⟩ := hV.get ha
  exact item_tupleT (l := vs) ⟨_, hT, rfl, _, rfl⟩ (by omega) (by omega) (seqIx h0 rfl (by rw [hV.length]; exact hl)) e ⟨_, st, H, F, Vw, .refl _, h⟩ (hs _ _)
theorem Op_subL {value slice : Expr} {x : Addr} {l : List AV} {i : Int} {a : AV} {k : AV → St → Prop} (hx : st.hp x = some (.list l)) (h0 : 0 ≤ i) (ha : l[i.toNat]? = some a) (h : k a st) (hs : subPlain slice := by intro _ _; with_unfolding_all rfl) :
    Op2 c N ow env (fun o i => subscriptTail value slice o i) (.ref x) (.int i) k st := fun A P s v u R H F V W => by
  apply W.rI; intro _
  apply V.rf
  obtain ⟨vs, n, hl, hV, hz⟩ := (H.objs x _ hx).2
  have hlt : i.toNat < l.length := (List.getElem?_eq_some_iff.mp ha).1
  obtain ⟨w, e, Vw⟩ := hV.get ha
  exact tail_any hl.isList.typeIs slot_list_getitem.lookup (wpAny_getItem_list hl.isList h0 (by omega) (by simpa using e) ⟨_, st, H, F, Vw, .refl _, h⟩) (hs _ _)
theorem Op_subLlast {value slice : Expr} {x : Addr} {l : List AV} {a : AV} {k : AV → St → Prop} (hx : st.hp x = some (.list l)) (ha : l.getLast? = some a) (h : k a st) (hs : subPlain slice := by intro _ _; with_unfolding_all rfl) :
    Op2 c N ow env (fun o i => subscriptTail value slice o i) (.ref x) (.int (-1)) k st := fun A P s v u R H F V W => by
  apply W.rI; intro _
  apply V.rf
  obtain ⟨vs, n, hl, hV, hz⟩ := (H.objs x _ hx).2
  have hn : 0 < l.length := by
    cases l with
    | nil => cases ha
    | cons a r => simp
  rw [List.getLast?_eq_getElem?] at ha
  obtain ⟨w, e, Vw⟩ := hV.get ha
  have hs' : vs.toArray.size = l.length := by rw [List.size_toArray, hV.length]
  refine tail_any hl.isList.typeIs slot_list_getitem.lookup (wpAny_getItem_list_neg hl.isList (by omega) (by rw [hs']; omega) (by omega) (x := w) ?_ ⟨_, st, H, F, Vw, .refl _, h⟩) (hs _ _)
  rw [hs', show (-1 + (l.length : Int)).toNat = l.length - 1 by omega]
  simpa using e

-- lists
theorem Op_addL {a b : Addr} {l m : List AV} {k : AV → St → Prop} (ha : st.hp a = some (.list l)) (hb : st.hp b = some (.list m)) (hz : l.length + m.length ≤ 100000) (h : ∀ x, st.hp x = none → k (.ref x) (st.put x (.list (l ++ m)))) :
    Op2 c N ow env (binaryOp .Add) (.ref a) (.ref b) k st := fun A P s v u R H F V W => by
  apply V.rf
  apply W.rf
  obtain ⟨vs, n1, e1, V1, z1⟩ := (H.objs a _ ha).2
  obtain ⟨ws, n2, e2, V2, z2⟩ := (H.objs b _ hb).2
  refine PySem.P.add_list e1 e2 ?_ (by rw [List.size_toArray, List.size_toArray, V1.length, V2.length, sizeLine_eq]; omega)
  have e : vs.toArray ++ ws.toArray = (vs ++ ws).toArray := by simp
  rw [e]
  exact ⟨_, st.put _ _, H.new (OR_newList (V1.append V2) (by rw [List.length_append]; exact hz)), F.new _, .ref _, ⟨_, _, rfl⟩, h _ H.fresh⟩
theorem foldl_app {α : Type} (v : α) : ∀ (n : Nat) (acc : Array α), List.foldl (fun x1 x2 => x1 ++ x2) acc (List.replicate n #[v]) = acc ++ (List.replicate n v).toArray
  | 0, acc => by simp
  | n + 1, acc => by
    rw [List.replicate_succ, List.foldl_cons, foldl_app v n, List.replicate_succ]
    apply Array.toList_inj.mp
    simp
/-- [a] * n -/
theorem Op_mulL {a : Addr} {d : AV} {n : Nat} {k : AV → St → Prop} (ha : st.hp a = some (.list [d])) (hz : n ≤ 1000) (h : ∀ x, st.hp x = none → k (.ref x) (st.put x (.list (List.replicate n d)))) :
    Op2 c N ow env (binaryOp .Mult) (.ref a) (.int n) k st := fun A P s v u R H F V W => by
  apply V.rf
  apply W.rI; intro _
  obtain ⟨vs, n1, e1, V1, z1⟩ := (H.objs a _ ha).2
  cases V1 with
  | cons V1 r =>
  cases r
  rename_i w
  obtain ⟨mm, hn, hm, F₀⟩ := F0 F
  refine mul_list F₀ news_all e1 (by omega) (by omega) (by simp; omega) fun h' F' N' => ?_
  have e : (List.foldl (fun x1 x2 => x1 ++ x2) (#[] : Array Value) (List.replicate (if (List.toArray [w]).isEmpty = true then 0 else ((n : Nat) : Int).toNat) (List.toArray [w]))) = (List.replicate n w).toArray := by
    rw [if_neg (by simp)]
    have := foldl_app w n #[]
    rw [Int.toNat_natCast]
    simpa using this
  rw [e] at N'
  obtain ⟨H', F'', T⟩ := back0 H F hn hm F' fun p hp => N' p (List.mem_cons_of_mem _ hp)
  have hf := H.fresh
  have r : OR c P.x h' s.heap.objs.size (.list (List.replicate n d)) := ⟨List.replicate n w, 0, (N' _ List.mem_cons_self).1, (VRs.replicate n (V1.mono T)), by rw [List.length_replicate]; omega⟩
  refine ⟨_, st.put s.heap.objs.size (.list (List.replicate n d)), ⟨H'.prot, H'.base, fun b o e => ?_, H'.hid, fun b o e => ?_⟩, F''.put (Nat.ne_of_gt F.lt) (fresh_wr H F).2.2.2.1, .ref _, ⟨_, _, rfl⟩, h _ hf⟩
  · simp only [St.put, upd] at e
    split at e
    · rename_i q; cases e; subst q; exact ⟨(fresh_wr H F).1, r⟩
    · exact H'.objs b o e
  · simp only [St.put, upd] at e
    split at e
    · rename_i q
      obtain ⟨o, _, _, eg, _⟩ := c.T.g
      exact q ▸ Heap.lt_size (H.keep _ _ eg)
    · exact H'.hi b o e

-- calls of built-ins
theorem Op_lenT {l : List AV} {k : AV → St → Prop} (hz : l.length ≤ 100000) (h : k (.int l.length) st) : OpL c N ow env (fun vs => call (.builtin "len") vs) [.tup l] k st := fun A P s vs R H F V => by
  apply V.r1; intro _ V
  apply V.rT; intro a ws n1 hT hx hV
  exact len_tuple (items := ws.toArray) ⟨_, hT, rfl, _, rfl⟩ (by rw [List.size_toArray, hV.length]; omega) (by rw [List.size_toArray, hV.length]; exact ⟨_, st, H, F, .int _ _, .toks _ _, h⟩)
theorem Op_lenL {x : Addr} {l : List AV} {k : AV → St → Prop} (hx : st.hp x = some (.list l)) (h : k (.int l.length) st) : OpL c N ow env (fun vs => call (.builtin "len") vs) [.ref x] k st := fun A P s vs R H F V => by
  apply V.r1; intro _ V
  apply V.rf
  obtain ⟨ws, n, hl, hV, hz⟩ := (H.objs x _ hx).2
  exact len_list hl.isList (by rw [List.size_toArray, hV.length]; omega) (by rw [List.size_toArray, hV.length]; exact ⟨_, st, H, F, .int _ _, .toks _ _, h⟩)
theorem Op_intI {i : Int} {k : AV → St → Prop} (h : k (.int i) st) : OpL c N ow env (fun vs => call (.type "int") vs) [.int i] k st := fun A P s vs R H F V => by
  apply V.r1; intro _ V
  apply V.rI; intro _
  exact call_int_int ⟨_, st, H, F, .int _ _, .refl _, h⟩
theorem Op_intB {b : Bool} {k : AV → St → Prop} (h : k (.int (if b = true then 1 else 0)) st) : OpL c N ow env (fun vs => call (.type "int") vs) [.bool b] k st := fun A P s vs R H F V => by
  apply V.r1; intro _ V
  apply V.rB
  exact call_int_bool ⟨_, st, H, F, .int _ _, .toks _ _, h⟩
theorem Op_min {a b : Int} {k : AV → St → Prop} (h : k (.int (min a b)) st) : OpL c N ow env (fun vs => call (.builtin "min") vs) [.int a, .int b] k st := fun A P s vs R H F V => by
  apply V.r2; intro _ _ V W
  apply V.rI; intro _
  apply W.rI; intro _
  obtain ⟨mm, hn, hm, F₀⟩ := F0 F
  refine min_two_N R.1 F₀ news_all fun h' tk F' N' => ?_
  obtain ⟨H', F'', T⟩ := back0 H F hn hm F' N'
  have e : (if b < a then b else a) = min a b := by rw [Int.min_def]; split <;> split <;> omega
  rw [e]
  exact ⟨_, st, H', F'', .int _ _, ⟨_, _, rfl⟩, h⟩
theorem Op_max {a b : Int} {k : AV → St → Prop} (h : k (.int (max a b)) st) : OpL c N ow env (fun vs => call (.builtin "max") vs) [.int a, .int b] k st := fun A P s vs R H F V => by
  apply V.r2; intro _ _ V W
  apply V.rI; intro _
  apply W.rI; intro _
  obtain ⟨mm, hn, hm, F₀⟩ := F0 F
  refine max_two_N R.1 F₀ news_all fun h' tk F' N' => ?_
  obtain ⟨H', F'', T⟩ := back0 H F hn hm F' N'
  have e : (if b > a then b else a) = max a b := by rw [Int.max_def]; split <;> split <;> omega
  rw [e]
  exact ⟨_, st, H', F'', .int _ _, ⟨_, _, rfl⟩, h⟩

-- methods of lists
theorem Mth_append {x : Addr} {l : List AV} (hx : st.hp x = some (.list l)) : Mth c N ow env "append" (.ref x) (.builtin "list.append") st := fun A P s v pl Q R H F V q => by
  revert q; apply V.rf; intro q
  obtain ⟨ws, n, hl, hV, hz⟩ := (H.objs x _ hx).2
  exact getMethod_list_append hl rfl rfl q
theorem Mth_pop {x : Addr} {l : List AV} (hx : st.hp x = some (.list l)) : Mth c N ow env "pop" (.ref x) (.builtin "list.pop") st := fun A P s v pl Q R H F V q => by
  revert q; apply V.rf; intro q
  obtain ⟨ws, n, hl, hV, hz⟩ := (H.objs x _ hx).2
  exact getMethod_builtin hl.isList.typeIs PySem.F.plainAttrs_list PySem.F.slot_list_pop PySem.F.type_list_pop (fun a e => by cases e; exact ⟨_, hl, rfl⟩) q
theorem mapSeq_size {items : Array Value} {n : Nat} (f : Array Value → Array Value) : Obj.mapSeq f { cls := .type "list", dict := none, data := .seq items n, slots := #[] } = { cls := .type "list", dict := none, data := .seq (f items) (if (f items).size == items.size then n else n + 1), slots := #[] } := rfl
theorem OR_listUpd {P : Pt} {hp : AH} {h : Heap} {x : Addr} {l l' : List AV} {vs vs' : List Value} {n : Nat} (H : HR c P hp h) (hx : hp x = some (.list l)) (e : IsL h x vs.toArray n) (f : Array Value → Array Value) (ef : f vs.toArray = vs'.toArray) (V : VRs P.x h vs' l') (hz : l'.length ≤ 100000) :
    OR c P.x (h.update x (Obj.mapSeq f)) x (.list l') := by
  refine ⟨vs', (if (vs'.toArray).size == (vs.toArray).size then n else n + 1), ?_, V.mono (TK.chg H hx (Heap.SameBut.update ..)), hz⟩
  · have := Heap.get?_update_self (Obj.mapSeq f) e (by rw [mapSeq_size]; rfl)
    rw [mapSeq_size, ef] at this
    exact this
theorem Op_append {x : Addr} {l : List AV} {a : AV} {k : AV → St → Prop} (hx : st.hp x = some (.list l)) (hz : l.length < 100000) (h : k .none (st.put x (.list (l ++ [a])))) : OpL c N ow env (fun vs => call (.builtin "list.append") vs) [.ref x, a] k st := fun A P s vs R H F V => by
  apply V.r2; intro _ w V W
  apply V.rf
  obtain ⟨ws, n, hl, hV, _⟩ := (H.objs x _ hx).2
  refine call_meets PySem.F.slot_list_append hl.isList.typeIs PySem.F.entry_list_append (PySem.F.args_list_append_2 _ _) (list_append x ws.toArray n w (by rw [List.size_toArray, hV.length, sizeLine_eq]; omega)) ⟨hl, ?_⟩
  have hs := Heap.SameBut.update s.heap x (Obj.mapSeq fun x_1 => x_1.push w)
  have r := OR_listUpd H hx hl (fun x_1 => x_1.push w) (vs' := ws ++ [w]) (by simp) (hV.append (.one W)) (by rw [List.length_append, List.length_singleton]; omega)
  exact ⟨.none, st.put x _, H.chg hx hs r, F.chg H hx hs, .none, ⟨_, _, rfl⟩, h⟩
theorem Op_pop {x : Addr} {l : List AV} {a : AV} {k : AV → St → Prop} (hx : st.hp x = some (.list (l ++ [a]))) (h : k a (st.put x (.list l))) : OpL c N ow env (fun vs => call (.builtin "list.pop") vs) [.ref x] k st := fun A P s vs R H F V => by
  apply V.r1; intro _ V
  apply V.rf
  obtain ⟨ws, n, hl, hV, hz⟩ := (H.objs x _ hx).2
  rw [List.length_append, List.length_singleton] at hz
  have hlen : ws.length = l.length + 1 := by rw [hV.length, List.length_append, List.length_singleton]
  obtain ⟨w, e, W⟩ := hV.get (k := l.length) (d := a) (by simp)
  have hd : ws = ws.dropLast ++ [w] := by
    have h1 : ws.take l.length ++ [w] = ws := by
      have h2 := List.take_append_getElem (l := ws) (i := l.length) (by omega)
      have h3 : ws[l.length]'(by omega) = w := by
        have := List.getElem?_eq_getElem (l := ws) (i := l.length) (by omega)
        rw [this] at e; exact Option.some.inj e
      rw [h3] at h2
      rw [h2, List.take_of_length_le (by omega)]
    rw [List.dropLast_eq_take, show ws.length - 1 = l.length by omega]
    exact h1.symm
  refine call_meets PySem.F.slot_list_pop hl.isList.typeIs PySem.F.entry_list_pop (PySem.F.args_list_pop_1 _) (PySem.MeetsSeq.list_pop_last x ws.toArray n w (by rw [List.size_toArray, hlen]; simpa using e) (by rw [List.size_toArray, hlen, sizeLine_eq]; omega)) ⟨hl, ?_⟩
  have hs := Heap.SameBut.update s.heap x (Obj.mapSeq fun xs => xs.eraseIdxIfInBounds (ws.toArray.size - 1))
  have V' : VRs P.x s.heap ws.dropLast l := by
    have := hV.dropLast
    rwa [List.dropLast_concat] at this
  have r := OR_listUpd H hx hl (fun xs => xs.eraseIdxIfInBounds (ws.toArray.size - 1)) (vs' := ws.dropLast) (by
    rw [List.size_toArray, hlen]
    apply Array.toList_inj.mp
    simp [Array.eraseIdxIfInBounds, hlen]
    rw [List.dropLast_eq_take, List.eraseIdx_eq_take_drop_succ, hlen]
    simp
    omega) V' (by omega)
  exact ⟨a, st.put x _, H.chg hx hs r, F.chg H hx hs, W.mono (TK.chg H hx hs), ⟨_, _, rfl⟩, h⟩
end
end Mu
end
noncomputable section
open PySem PySem.W PySem.Calls PyProof.Rows
set_option Elab.async false
set_option linter.unusedVariables false
set_option linter.unusedSectionVars false

namespace Mu
section
variable {c : Cx} {N : Nat} {ow : List Addr} {env : Env} {st : St}

-- dicts with tuple keys
section
variable {κ : Type} [DecidableEq κ]
def dget (es : List (κ × AV)) (k : κ) : Option AV := (es.find? fun p => decide (p.1 = k)).map (·.2)
def dput (es : List (κ × AV)) (k : κ) (a : AV) : List (κ × AV) := if (dget es k).isSome then es.map fun p => if p.1 = k then (p.1, a) else p else es ++ [(k, a)]
theorem KV.at {X : Hid} {h : Heap} {f : κ → AV} {xs : List (κ × Addr × Value)} {es : List (κ × AV)} (r : KV X h f xs es) (k : κ) :
    (atKey xs k = none ∧ dget es k = none) ∨ ∃ a v d, atKey xs k = some (a, v) ∧ dget es k = some d ∧ VR X h v d := by
  induction r with
  | nil => exact .inl ⟨rfl, rfl⟩
  | @cons k' a v d xs es ra rv r ih =>
    unfold atKey dget at ih ⊢
    rw [List.find?_cons, List.find?_cons]
    by_cases q : k' = k
    · simp only [decide_eq_true q]
      exact .inr ⟨a, v, d, rfl, rfl, rv⟩
    · simp only [decide_eq_false q]
      exact ih
theorem KV.length {X : Hid} {h : Heap} {f : κ → AV} {xs : List (κ × Addr × Value)} {es : List (κ × AV)} (r : KV X h f xs es) : xs.length = es.length := by
  induction r with
  | nil => rfl
  | cons _ _ _ ih => rw [List.length_cons, List.length_cons, ih]
theorem KV.map {X : Hid} {h : Heap} {f : κ → AV} {xs : List (κ × Addr × Value)} {es : List (κ × AV)} {k : κ} {v : Value} {d : AV} (r : KV X h f xs es) (V : VR X h v d) :
    KV X h f (xs.map (putAt k v)) (es.map fun p => if p.1 = k then (p.1, d) else p) := by
  induction r with
  | nil => exact .nil
  | @cons k' a v' d' xs es ra rv r ih =>
    rw [List.map_cons, List.map_cons]
    unfold putAt
    by_cases q : k' = k
    · rw [if_pos q, if_pos q]; exact .cons ra V ih
    · rw [if_neg q, if_neg q]; exact .cons ra rv ih
theorem KV.append {X : Hid} {h : Heap} {f : κ → AV} {xs ys : List (κ × Addr × Value)} {es fs : List (κ × AV)} (r : KV X h f xs es) (r' : KV X h f ys fs) : KV X h f (xs ++ ys) (es ++ fs) := by
  induction r with
  | nil => exact r'
  | cons a b _ ih => exact .cons a b ih
theorem KV.stored {X : Hid} {h : Heap} {f : κ → AV} {xs : List (κ × Addr × Value)} {es : List (κ × AV)} {k : κ} {a : Addr} {v : Value} {d : AV} (r : KV X h f xs es) (ra : VR X h (.ref a) (f k)) (V : VR X h v d) : KV X h f (storedH xs k a v) (dput es k d) := by
  unfold storedH dput
  rcases r.at k with ⟨e1, e2⟩ | ⟨a', v', d', e1, e2, _⟩
  · rw [e1, e2]; exact r.append (.cons ra V .nil)
  · rw [e1, e2]; exact r.map V
theorem KV.keys {X : Hid} {h : Heap} {f : κ → AV} {xs : List (κ × Addr × Value)} {es : List (κ × AV)} (r : KV X h f xs es) : VRs X h (xs.map fun x => .ref x.2.1) (es.map fun p => f p.1) := by
  induction r with
  | nil => exact .nil
  | cons a _ _ ih => exact .cons a ih
end

theorem keyI {X : Hid} {h : Heap} {a : Addr} {ks : List Int} (V : VR X h (.ref a) (aI ks)) : IsTupleKey (intKind c.prog c.w) h ks a := by
  cases V with
  | @tup _ vs n _ hT hx hV =>
  refine ⟨_, _, _, hT, rfl, rfl, ?_⟩
  clear hT
  show ItemsAre _ ks vs
  induction ks generalizing vs with
  | nil => cases hV; exact .nil
  | cons k ks ih =>
    cases hV with
    | cons v r =>
      cases v
      exact .cons (by simp [intKind, Value.isInt]) (ih r)
theorem keyS {X : Hid} {h : Heap} {a : Addr} {ks : List Str} (V : VR X h (.ref a) (aS ks)) : IsTupleKey (strKind c.prog c.w) h ks a := by
  cases V with
  | @tup _ vs n _ hT hx hV =>
  refine ⟨_, _, _, hT, rfl, rfl, ?_⟩
  clear hT
  show ItemsAre _ ks vs
  induction ks generalizing vs with
  | nil => cases hV; exact .nil
  | cons k ks ih =>
    cases hV with
    | cons v r =>
      cases v
      exact .cons (strKind_is _ _ _ _) (ih r)
theorem aI_ref {X : Hid} {h : Heap} {v : Value} {ks : List Int} (V : VR X h v (aI ks)) : ∃ a, v = .ref a := by cases V; exact ⟨_, rfl⟩
theorem aS_ref {X : Hid} {h : Heap} {v : Value} {ks : List Str} (V : VR X h v (aS ks)) : ∃ a, v = .ref a := by cases V; exact ⟨_, rfl⟩
theorem HR.notSys {P : Pt} {hp : AH} {h : Heap} {d : Addr} {ao : AO} (H : HR c P hp h) (hd : hp d = some ao) : (d == sysModules) = false := by
  have := H.hi d ao hd
  exact beq_eq_false_iff_ne.mpr (Nat.ne_of_gt (Nat.lt_of_le_of_lt (by decide) this))
theorem Room.k {A : Around} (R : Room N A) : A.in1.units < cLine := by have := R.units; show A.units + 1 < cLine; omega

theorem Mth_getI {x : Addr} {es : List (List Int × AV)} (hx : st.hp x = some (.dictI es)) : Mth c N ow env "get" (.ref x) (.builtin "dict.get") st := fun A P s v pl Q R H F V q => by
  revert q; apply V.rf; intro q
  obtain ⟨xs, hm, _, _⟩ := (H.objs x _ hx).2
  obtain ⟨o, _, _, e, hc, _⟩ := id hm
  exact getMethod_builtin hm.typeIs PySem.F.plainAttrs_dict PySem.F.slot_dict_get PySem.F.type_dict_get (fun a e' => by cases e'; exact ⟨o, e, hc.2.1⟩) q
theorem Mth_getS {x : Addr} {es : List (List Str × AV)} {ep : Nat} (hx : st.hp x = some (.dictS es ep)) : Mth c N ow env "get" (.ref x) (.builtin "dict.get") st := fun A P s v pl Q R H F V q => by
  revert q; apply V.rf; intro q
  obtain ⟨xs, hm, _, _⟩ := (H.objs x _ hx).2
  obtain ⟨o, _, _, e, hc, _⟩ := id hm
  exact getMethod_builtin hm.typeIs PySem.F.plainAttrs_dict PySem.F.slot_dict_get PySem.F.type_dict_get (fun a e' => by cases e'; exact ⟨o, e, hc.2.1⟩) q
theorem Op_getI {x : Addr} {es : List (List Int × AV)} {ks : List Int} {k : AV → St → Prop} (hx : st.hp x = some (.dictI es)) (h : k ((dget es ks).getD .none) st) : OpL c N ow env (fun vs => call (.builtin "dict.get") vs) [.ref x, aI ks] k st := fun A P s vs R H F V => by
  apply V.r2; intro _ _ V W
  apply V.rf
  obtain ⟨a, rfl⟩ := aI_ref W
  obtain ⟨xs, hm, kv, _⟩ := (H.objs x _ hx).2
  refine call_meetsIn PySem.F.slot_dict_get hm.typeIs PySem.F.entry_dict_get (PySem.F.args_dict_get_2 _ _) (meetsH_dict_get (kI c) x a (H.notSys hx)) ⟨R.k, ks, xs, keyI W, hm, ?_⟩
  rcases kv.at ks with ⟨e1, e2⟩ | ⟨a', v', d', e1, e2, V'⟩
  · rw [e1]; rw [e2] at h; exact ⟨_, st, H, F, .none, .toks _ _, h⟩
  · rw [e1]; rw [e2] at h; exact ⟨_, st, H, F, V', .toks _ _, h⟩
theorem Op_getS {x : Addr} {es : List (List Str × AV)} {ep : Nat} {ks : List Str} {k : AV → St → Prop} (hx : st.hp x = some (.dictS es ep)) (h : k ((dget es ks).getD .none) st) : OpL c N ow env (fun vs => call (.builtin "dict.get") vs) [.ref x, aS ks] k st := fun A P s vs R H F V => by
  apply V.r2; intro _ _ V W
  apply V.rf
  obtain ⟨a, rfl⟩ := aS_ref W
  obtain ⟨xs, hm, kv, _⟩ := (H.objs x _ hx).2
  refine call_meetsIn PySem.F.slot_dict_get hm.typeIs PySem.F.entry_dict_get (PySem.F.args_dict_get_2 _ _) (meetsH_dict_get (kS c) x a (H.notSys hx)) ⟨R.k, ks, xs, keyS W, hm, ?_⟩
  rcases kv.at ks with ⟨e1, e2⟩ | ⟨a', v', d', e1, e2, V'⟩
  · rw [e1]; rw [e2] at h; exact ⟨_, st, H, F, .none, .toks _ _, h⟩
  · rw [e1]; rw [e2] at h; exact ⟨_, st, H, F, V', .toks _ _, h⟩
theorem Op_inS {x : Addr} {es : List (List Str × AV)} {ep : Nat} {ks : List Str} {k : AV → St → Prop} (hx : st.hp x = some (.dictS es ep)) (h : k (.bool (dget es ks).isSome) st) : Op2 c N ow env (compareOp .In) (aS ks) (.ref x) k st := fun A P s v u R H F V W => by
  obtain ⟨a, rfl⟩ := aS_ref V
  cases W
  obtain ⟨xs, hm, kv, _⟩ := (H.objs x _ hx).2
  refine wpAny_in_heap (knd := kS c) R.k (keyS V) (H.notSys hx) hm ?_
  rcases kv.at ks with ⟨e1, e2⟩ | ⟨a', v', d', e1, e2, V'⟩
  · rw [e1]; rw [e2] at h; exact ⟨_, st, H, F, .bool _, .toks _ _, h⟩
  · rw [e1]; rw [e2] at h; exact ⟨_, st, H, F, .bool _, .toks _ _, h⟩
theorem Op_notInS {x : Addr} {es : List (List Str × AV)} {ep : Nat} {ks : List Str} {k : AV → St → Prop} (hx : st.hp x = some (.dictS es ep)) (h : k (.bool (!(dget es ks).isSome)) st) : Op2 c N ow env (compareOp .NotIn) (aS ks) (.ref x) k st := fun A P s v u R H F V W => by
  obtain ⟨a, rfl⟩ := aS_ref V
  cases W
  obtain ⟨xs, hm, kv, _⟩ := (H.objs x _ hx).2
  refine wpAny_notIn_heap (knd := kS c) R.k (keyS V) (H.notSys hx) hm ?_
  rcases kv.at ks with ⟨e1, e2⟩ | ⟨a', v', d', e1, e2, V'⟩
  · rw [e1]; rw [e2] at h; exact ⟨_, st, H, F, .bool _, .toks _ _, h⟩
  · rw [e1]; rw [e2] at h; exact ⟨_, st, H, F, .bool _, .toks _ _, h⟩
theorem Op_subS {value slice : Expr} {x : Addr} {es : List (List Str × AV)} {ep : Nat} {ks : List Str} {a : AV} {k : AV → St → Prop} (hx : st.hp x = some (.dictS es ep)) (ha : dget es ks = some a) (h : k a st) (hs : subPlain slice := by intro _ _; with_unfolding_all rfl) :
    Op2 c N ow env (fun o i => subscriptTail value slice o i) (.ref x) (aS ks) k st := fun A P s v u R H F V W => by
  obtain ⟨b, rfl⟩ := aS_ref W
  cases V
  obtain ⟨xs, hm, kv, _⟩ := (H.objs x _ hx).2
  rcases kv.at ks with ⟨e1, e2⟩ | ⟨a', v', d', e1, e2, V'⟩
  · rw [ha] at e2; cases e2
  · rw [ha] at e2; cases e2
    exact tail_any hm.typeIs slot_dict_getitem.lookup (wpAny_getItem_heap (knd := kS c) R.k (keyS W) hm e1 ⟨_, st, H, F, V', .toks _ _, h⟩) (hs _ _)
theorem Ev_Dict0 {pos : Pos} {k : AV → St → Prop} (h : ∀ x, st.hp x = none → k (.ref x) (st.put x (.dictI []))) : Ev c N ow env (eval (.Dict [] [] pos) env) k st := fun A P s R H F =>
  wpAny_Dict_empty ⟨_, st.put _ _, H.new (ao := .dictI []) ⟨[], Heap.DictOfH.new s.heap, .nil, Nat.zero_le _⟩, F.new _, .ref _, ⟨_, _, rfl⟩, h _ H.fresh⟩

/-- stores of three values -/
def Un3 (c : Cx) (N : Nat) (ow : List Addr) (env : Env) (t : Value → Value → Value → Sem Unit) (a b d : AV) (k : St → Prop) (st : St) : Prop :=
  ∀ A P s v u w, Room N A → HR c P st.hp s.heap → FR P ow env st s.heap → VR P.x s.heap v a → VR P.x s.heap u b → VR P.x s.heap w d → wpAny c.M A (t v u w) (PUn c P ow env s k) NoE s
def Un2 (c : Cx) (N : Nat) (ow : List Addr) (env : Env) (t : Value → Value → Sem Unit) (a b : AV) (k : St → Prop) (st : St) : Prop :=
  ∀ A P s v u, Room N A → HR c P st.hp s.heap → FR P ow env st s.heap → VR P.x s.heap v a → VR P.x s.heap u b → wpAny c.M A (t v u) (PUn c P ow env s k) NoE s
theorem Ex_AssignSub {o i value : Expr} {pos' pos : Pos} {k : AF → St → Prop}
    (h : Ev c N ow env (eval value env) (fun a st₁ => Ev c N ow env (eval o env) (fun b st₂ => Ev c N ow env (eval i env) (fun d st₃ => Un3 c N ow env (fun ov iv v => setItem ov iv v) b d a (k .next) st₃) st₂) st₁) st)
    (hs : swapsWith value (some (.Subscript o i pos')) pos.line env = pure false := by rfl) : Ex c N ow env (exec (.Assign [.Subscript o i pos'] value pos) env) k st := fun A P s R H F =>
  wpAny_Assign_Subscript (h.then R H F fun v s₁ a st₁ H₁ F₁ V₁ E₁ h₁ _ _ => h₁.then R H₁ F₁ fun u s₂ b st₂ H₂ F₂ V₂ E₂ h₂ T₂ _ => h₂.then R H₂ F₂ fun w s₃ d st₃ H₃ F₃ V₃ E₃ h₃ T₃ _ =>
    wpAny_mono (h₃ A P s₃ u w v R H₃ F₃ (V₂.mono T₃) V₃ ((V₁.mono T₂).mono T₃)) (fun _ s₄ ⟨st₄, H₄, F₄, E₄, q⟩ => ⟨.next, st₄, H₄, F₄, rfl, E₁.trans (E₂.trans (E₃.trans E₄)), q⟩) fun _ _ x => x) hs
theorem Ex_AssignAttr {o value : Expr} {attr : Str} {pos' pos : Pos} {k : AF → St → Prop}
    (h : Ev c N ow env (eval value env) (fun a st₁ => Ev c N ow env (eval o env) (fun b st₂ => Un2 c N ow env (fun ov v => setAttr ov attr v) b a (k .next) st₂) st₁) st)
    (hs : swapsWith value (some (.Attribute o attr pos')) pos.line env = pure false := by rfl) : Ex c N ow env (exec (.Assign [.Attribute o attr pos'] value pos) env) k st := fun A P s R H F =>
  plainObj_wpAny_Assign_Attribute (h.then R H F fun v s₁ a st₁ H₁ F₁ V₁ E₁ h₁ _ _ => h₁.then R H₁ F₁ fun u s₂ b st₂ H₂ F₂ V₂ E₂ h₂ T₂ _ =>
    wpAny_mono (h₂ A P s₂ u v R H₂ F₂ V₂ (V₁.mono T₂)) (fun _ s₄ ⟨st₄, H₄, F₄, E₄, q⟩ => ⟨.next, st₄, H₄, F₄, rfl, E₁.trans (E₂.trans E₄), q⟩) fun _ _ x => x) hs

theorem Un_setL {x : Addr} {l : List AV} {i : Int} {a : AV} {k : St → Prop} (hx : st.hp x = some (.list l)) (h0 : 0 ≤ i) (h1 : i < l.length) (h : k (st.put x (.list (l.set i.toNat a)))) :
    Un3 c N ow env (fun ov iv v => setItem ov iv v) (.ref x) (.int i) a k st := fun A P s v u w R H F V U W => by
  apply V.rf
  apply U.rI; intro _
  obtain ⟨vs, n, hl, hV, hz⟩ := (H.objs x _ hx).2
  refine ki_setAt hl h0 (by omega) (by rw [List.size_toArray, hV.length]; exact h1) ?_
  have hs := Heap.SameBut.update s.heap x (Obj.mapSeq (·.setIfInBounds i.toNat w))
  have r := OR_listUpd H hx hl (·.setIfInBounds i.toNat w) (vs' := vs.set i.toNat w) (by apply Array.toList_inj.mp; simp) (hV.set i.toNat W) (by rw [List.length_set]; exact hz)
  exact ⟨st.put x _, H.chg hx hs r, F.chg H hx hs, ⟨_, _, rfl⟩, h⟩
theorem dictOfH_upd {P : Pt} {hp : AH} {h h' : Heap} {x : Addr} {es : List (List Int × AV)} {ks : List Int} {a : Addr} {w : Value} {d : AV} {xs : List (List Int × Addr × Value)} (H : HR c P hp h) (hx : hp x = some (.dictI es)) (kv : KV P.x h aI xs es)
    (hm' : h'.DictOfH (kI c) x (storedH xs ks a w)) (hs : Heap.SameBut x h h') (V : VR P.x h (.ref a) (aI ks)) (W : VR P.x h w d) (hz : (dput es ks d).length ≤ 100000) : OR c P.x h' x (.dictI (dput es ks d)) :=
  ⟨_, hm', (kv.stored V W).mono (TK.chg H hx hs), hz⟩
theorem Un_setI {x : Addr} {es : List (List Int × AV)} {ks : List Int} {a : AV} {k : St → Prop} (hx : st.hp x = some (.dictI es)) (hz : (dput es ks a).length ≤ 100000) (h : k (st.put x (.dictI (dput es ks a)))) :
    Un3 c N ow env (fun ov iv v => setItem ov iv v) (.ref x) (aI ks) a k st := fun A P s v u w R H F V U W => by
  obtain ⟨b, rfl⟩ := aI_ref U
  cases V
  obtain ⟨xs, hm, kv, hz'⟩ := (H.objs x _ hx).2
  refine wpAny_setItem_heap (knd := kI c) R.k (keyI U) hm (fun h' hm' hs => ?_) (by rw [kv.length, sizeLine_eq]; omega)
  exact ⟨st.put x _, H.chg hx hs (dictOfH_upd H hx kv hm' hs U W hz), F.chg H hx hs, ⟨_, _, rfl⟩, h⟩

-- attributes of objects
def aget (es : List (Str × AV)) (x : Str) : Option AV := (es.find? fun p => p.1 == x).map (·.2)
def aput (x : Str) (a : AV) : List (Str × AV) → List (Str × AV)
  | [] => [(x, a)]
  | p :: r => if p.1 == x then (p.1, a) :: r else p :: aput x a r
theorem AR.at {X : Hid} {h : Heap} {xs : List DictEntry} {es : List (Str × AV)} (r : AR X h xs es) (x : Str) : (getL x xs = some none ∧ aget es x = none) ∨ ∃ v d, getL x xs = some (some v) ∧ aget es x = some d ∧ VR X h v d := by
  have noref : xs.any (·.refKey) = false := by
    induction r with
    | nil => rfl
    | cons _ _ ih => rw [List.any_cons, ih]; rfl
  unfold getL
  have key : (xs.find? (·.key.isStr x) = none ∧ aget es x = none) ∨ ∃ e d, xs.find? (·.key.isStr x) = some e ∧ aget es x = some d ∧ VR X h e.val d := by
    clear noref
    induction r with
    | nil => exact .inl ⟨rfl, rfl⟩
    | @cons y n t v d xs es V r ih =>
      unfold aget at ih ⊢
      rw [List.find?_cons, List.find?_cons]
      show (match (y == x) with | true => _ | false => _) = none ∧ _ ∨ _
      cases q : y == x with
      | true =>
        refine .inr ⟨⟨n, .str y t, v⟩, d, ?_, rfl, V⟩
        show (match (y == x) with | true => _ | false => _) = _
        rw [q]
      | false =>
        rcases ih with ⟨e1, e2⟩ | ⟨e, d', e1, e2, V'⟩
        · exact .inl ⟨e1, e2⟩
        · refine .inr ⟨e, d', ?_, e2, V'⟩
          show (match (y == x) with | true => _ | false => _) = _
          rw [q]; exact e1
  rcases key with ⟨e1, e2⟩ | ⟨e, d, e1, e2, V⟩
  · rw [e1]; exact .inl ⟨by dsimp only; rw [if_neg (by rw [noref]; exact Bool.false_ne_true)], e2⟩
  · rw [e1]; exact .inr ⟨e.val, d, rfl, e2, V⟩
theorem AR.put {X : Hid} {h : Heap} {xs : List DictEntry} {es : List (Str × AV)} {x : Str} {hsh : Int} {tk : Tok} {v : Value} {a : AV} (r : AR X h xs es) (V : VR X h v a) : AR X h (putL x hsh (.str x tk) v xs) (aput x a es) := by
  induction r with
  | nil => exact .cons V .nil
  | @cons y n t u d xs es W r ih =>
    show AR X h (if (y == x) = true then _ else _) (if (y == x) = true then _ else _)
    cases q : y == x with
    | true => rw [if_pos rfl, if_pos rfl]; exact .cons V r
    | false => rw [if_neg (by simp), if_neg (by simp)]; exact .cons W ih
theorem AR.length {X : Hid} {h : Heap} {xs : List DictEntry} {es : List (Str × AV)} (r : AR X h xs es) : xs.length = es.length := by
  induction r with
  | nil => rfl
  | cons _ _ ih => rw [List.length_cons, List.length_cons, ih]
theorem VR.handed {X : Hid} {h : Heap} {v : Value} {a : AV} (V : VR X h v a) : handedIn v = true := by cases V <;> rfl

theorem Ev_Attr {value : Expr} {attr : Str} {pos : Pos} {k : AV → St → Prop} (h : Ev c N ow env (eval value env) (fun a st₁ => Op1 c N ow env (fun o => getAttr o attr true) a k st₁) st)
    (he : eval (.Attribute value attr pos) env = (do
      let o ← eval value env
      standAt pos.atName
      let r ← holding [o] (getAttr o attr true)
      letTemporaryGo value o r
      pure r) := by with_unfolding_all rfl) : Ev c N ow env (eval (.Attribute value attr pos) env) k st := fun A P s R H F =>
  Attribute_any_ (h.then R H F fun v s₁ a st₁ H₁ F₁ V₁ E₁ h₁ _ _ => wpAny_mono (h₁ A P s₁ v R H₁ F₁ V₁) (fun _ _ x => x.ext E₁) fun _ _ x => x) he
theorem inst_at {P : Pt} {hp : AH} {h : Heap} {x C dx : Addr} {es : List (Str × AV)} (H : HR c P hp h) (hx : hp x = some (.inst C dx)) (hd : hp dx = some (.attrs es)) : ∃ xs n, W.InstAt h x (instObj C dx) C (some (dictOf xs n)) ∧ AR P.x h xs es ∧ h.get? dx = some (dictOf xs n) ∧ es.length ≤ 100 := by
  have e1 : h.get? x = some (instObj C dx) := (H.objs x _ hx).2
  obtain ⟨xs, n, e2, r, z⟩ := (H.objs dx _ hd).2
  exact ⟨xs, n, ⟨e1, rfl, rfl, e2⟩, r, e2, z⟩
theorem Op_attr {x C dx : Addr} {es : List (Str × AV)} {attr : Str} {ca : Option Value} {a : AV} {k : AV → St → Prop} (hx : st.hp x = some (.inst C dx)) (hd : st.hp dx = some (.attrs es)) (ha : aget es attr = some a)
    (hg : plainGet c.K C attr = true) (hh : hasDictIn c.K C = true) (hf : findIn c.K (.ref C) attr = some ca) (hn : noGet c.K ca = true) (h : k a st) : Op1 c N ow env (fun o => getAttr o attr true) (.ref x) k st := fun A P s v R H F V => by
  apply V.rf
  obtain ⟨xs, n, I, r, e2, z⟩ := inst_at H hx hd
  rcases r.at attr with ⟨e1, e3⟩ | ⟨v', d', e1, e3, V'⟩
  · rw [ha] at e3; cases e3
  · rw [ha] at e3; cases e3
    exact get_value H.X I (plainGet_of hg).1 (findObj_own hh hf hn e1) V'.handed ⟨_, st, H, F, V', .toks _ _, h⟩
theorem Mth_inst {x C dx f : Addr} {es : List (Str × AV)} {name : Str} (hx : st.hp x = some (.inst C dx)) (hd : st.hp dx = some (.attrs es)) (ha : aget es name = none) (hg : plainGet c.K C name = true)
    (hf : findIn c.K (.ref C) name = some (some (.ref f))) (ht : isFn c.K (.ref f) = true) : Mth c N ow env name (.ref x) (.ref f) st := fun A P s v pl Q R H F V q => by
  revert q; apply V.rf; intro q
  obtain ⟨xs, n, I, r, e2, z⟩ := inst_at H hx hd
  rcases r.at name with ⟨e1, e3⟩ | ⟨v', d', e1, e3, V'⟩
  · exact method_fn H.X I (plainGet_of hg).1 (plainGet_of hg).2 hf (beq_iff_eq.mp ht) (by show (lookIn name (dictOf xs n)).map _ = _; rw [lookIn_dict, e1]; rfl) q
  · rw [ha] at e3; cases e3

/-- all objects but the frame's namespace and one known object are kept -/
theorem back1 {P : Pt} {h h' : Heap} {m : Str → Option Value} {d : Addr} {ao ao' : AO} (H : HR c P st.hp h) (F : FR P ow env st h) (hn : h.Ns env.locals m) (hm : ∀ x av, st.loc x = some av → env.kindOf x = some .local → ∃ v, m x = some v ∧ VR P.x h v av)
    (hd : st.hp d = some ao) (n' : h'.Ns env.locals m) (k : ∀ b o, b ≠ env.locals → b ≠ d → h.get? b = some o → h'.get? b = some o) (r : TK P.x h P.x h' → OR c P.x h' d ao') : HR c P (upd st.hp d ao') h' ∧ FR P ow env (st.put d ao') h' := by
  have hL : d ≠ env.locals := fun q => by rw [q, F.own.2] at hd; cases hd
  have ho : d ∉ ow := fun q => by rw [(F.ows d q).2.1] at hd; cases hd
  have T : TK P.x h P.x h' := fun a vs n x e => ⟨x, k a _ (fun q => ns_notT hn _ _ (q ▸ e)) (fun q => notT_of (H.objs d ao hd).2 _ _ (q ▸ e)) e⟩
  have R := r T
  have hC : ∀ {cx : Addr} {v : Option Value}, h.IsCell cx v → h'.IsCell cx v := fun {cx v} ⟨o, e1, e2⟩ => ⟨o, k cx o (fun q => ns_notCell hn ⟨o, q ▸ e1, e2⟩) (fun q => by
    have r := (H.objs d ao hd).2
    subst q
    cases ao with
    | list l => obtain ⟨_, _, e, _⟩ := r; rw [e] at e1; cases e1; cases e2
    | dictI es => obtain ⟨_, ⟨_, _, _, e, _, d, _⟩, _⟩ := r; rw [e] at e1; cases e1; rw [d] at e2; cases e2
    | dictS es ep => obtain ⟨_, ⟨_, _, _, e, _, d, _⟩, _⟩ := r; rw [e] at e1; cases e1; rw [d] at e2; cases e2
    | inst C dx => have e : h.get? cx = some (instObj C dx) := r; rw [e] at e1; cases e1; cases e2
    | attrs es => obtain ⟨_, _, e, _⟩ := r; rw [e] at e1; cases e1; cases e2) e1, e2⟩
  refine ⟨⟨fun b o e => k b o (fun q => by rw [q, F.own.1] at e; cases e) (fun q => by rw [q, (H.objs d ao hd).1] at e; cases e) (H.prot b o e), H.base, fun b o e => ?_, fun b x => ?_, fun b o e => ?_⟩, FR.put (ao := ao') ⟨⟨m, n', fun x av e l => ?_⟩, fun x av e l => ?_, F.own, fun b hb => ?_, fun x cx e => ?_⟩ hL ho⟩
  · unfold upd at e
    split at e
    · rename_i q; cases e; subst q; exact ⟨(H.objs b ao hd).1, R⟩
    · rename_i q
      exact ⟨(H.objs b o e).1, (H.objs b o e).2.mono T fun ob z => k b ob (fun z => by rw [z, F.own.2] at e; cases e) q z⟩
  · by_cases q : b = env.locals
    · obtain ⟨o, _, _, e, _⟩ := n'; exact ⟨o, q ▸ e⟩
    · by_cases q2 : b = d
      · obtain ⟨ob, e, _⟩ := R.there; exact ⟨ob, q2 ▸ e⟩
      · obtain ⟨o, e⟩ := H.hid b x; exact ⟨o, k b o q q2 e⟩
  · unfold upd at e
    split at e
    · rename_i q; exact q ▸ H.hi d ao hd
    · exact H.hi b o e
  · obtain ⟨v, e1, V⟩ := hm x av e l; exact ⟨v, e1, V.mono T⟩
  · obtain ⟨cx, v, e1, I, V⟩ := F.cl x av e l; exact ⟨cx, v, e1, hC I, V.mono T⟩
  · obtain ⟨h1, h2, v, I⟩ := F.ows b hb; exact ⟨h1, h2, v, hC I⟩
  · obtain ⟨v, I⟩ := F.cls x cx e; exact ⟨v, hC I⟩

theorem Un_setA {x C dx : Addr} {es : List (Str × AV)} {attr : Str} {a : AV} {k : St → Prop} (hx : st.hp x = some (.inst C dx)) (hd : st.hp dx = some (.attrs es)) (hz : (aput attr a es).length ≤ 100)
    (hs : findIn c.K (.ref C) "__setattr__" = some (some (.builtin "object.__setattr__"))) (hp : plainOver c.K C = true) (ht : takerIn c.K C attr = some none) (hh : hasDictIn c.K C = true)
    (h : k (st.put dx (.attrs (aput attr a es)))) : Un2 c N ow env (fun ov v => setAttr ov attr v) (.ref x) a k st := fun A P s v u R H F V U => by
  cases V
  obtain ⟨xs, n, I, r, e2, z⟩ := inst_at H hx hd
  obtain ⟨mm, hn, hm, F₀⟩ := F0 F
  have hL : dx ≠ env.locals := fun q => by rw [q, F.own.2] at hd; cases hd
  obtain ⟨pre, post, e3, n1, n2⟩ := allNews_split e2 hL
  have N₀ : News {} env.locals s.heap (pre ++ (dx, dictOf xs n) :: post) := e3 ▸ news_all
  have hl : (lookIn attr (dictOf xs n)).isSome = true := by
    rw [lookIn_dict]
    rcases r.at attr with ⟨e1, _⟩ | ⟨v', d', e1, _⟩ <;> rw [e1] <;> rfl
  refine set_plain H.X I hs ?_
  have r' := r.put (x := attr) (hsh := PyData.keyHash c.w.params attr) (tk := s.toks + 1) U
  refine osa_dict (s := { s with toks := s.toks + 1 }) F₀ N₀ H.X I rfl hp ht hh hl n1 n2 (putName_dict attr _ _ u xs n) rfl (by rw [r'.length]; omega) fun h' F' N' => ?_
  have kk : ∀ b o, b ≠ env.locals → b ≠ dx → s.heap.get? b = some o → h'.get? b = some o := fun b o h1 h2 e => by
    have hm := mem_allNews.mpr ⟨h1, e⟩
    rw [e3] at hm
    have : (b, o) ∈ pre ++ (dx, dictOf (putL attr (PyData.keyHash c.w.params attr) (.str attr (s.toks + 1)) u xs) (putN attr xs n)) :: post := by
      rcases List.mem_append.mp hm with q | q
      · exact List.mem_append_left _ q
      · rcases List.mem_cons.mp q with q | q
        · cases q; exact absurd rfl h2
        · exact List.mem_append_right _ (List.mem_cons_of_mem _ q)
    exact (N' _ this).1
  have hg := (N' (dx, dictOf (putL attr (PyData.keyHash c.w.params attr) (.str attr (s.toks + 1)) u xs) (putN attr xs n)) (List.mem_append_right _ List.mem_cons_self)).1
  obtain ⟨H', F''⟩ := back1 (ao' := .attrs (aput attr a es)) H F hn hm hd F'.ns kk fun T => ⟨_, _, hg, r'.mono T, hz⟩
  exact ⟨_, H', F'', ⟨h', _, rfl⟩, h⟩
end
end Mu
end
noncomputable section
open PySem PySem.W PySem.Calls PyProof.Rows
set_option Elab.async false
set_option linter.unusedVariables false
set_option linter.unusedSectionVars false

namespace Mu

def cellsOf (cs : List (Str × Addr)) : List Addr := cs.filterMap fun p => cs.lookup p.1
theorem mem_cellsOf {cs : List (Str × Addr)} {a : Addr} (h : a ∈ cellsOf cs) : ∃ n, cs.lookup n = some a := let ⟨p, _, e⟩ := List.mem_filterMap.mp h; ⟨p.1, e⟩

/-- a call's locals -/
def argsOf (xs : List Str) (args : List AV) : AL := fun x => (xs.zip args).lookup x

theorem bindL_out {kindOf : Str → Option NameKind} {x : Str} : ∀ {bs : List (Str × Value)} {m : Str → Option Value}, (∀ p ∈ bs, p.1 ≠ x) → bindL kindOf bs m x = m x
  | [], _, _ => rfl
  | (n, v) :: r, m, h => by
    unfold bindL
    rw [bindL_out fun p hp => h p (.tail _ hp)]
    split
    · exact if_neg fun e => h (n, v) (.head _) e.symm
    · rfl
theorem bindC_out {kindOf : Str → Option NameKind} {x : Str} : ∀ {bs : List (Str × Value)} {m : Str → Option Value}, (∀ p ∈ bs, p.1 ≠ x) → bindC kindOf bs m x = m x
  | [], _, _ => rfl
  | (n, v) :: r, m, h => by
    unfold bindC
    rw [bindC_out fun p hp => h p (.tail _ hp)]
    split
    · rfl
    · exact if_neg fun e => h (n, v) (.head _) e.symm
theorem zip_fst {xs : List Str} {vs : List Value} {p : Str × Value} (h : p ∈ xs.zip vs) : p.1 ∈ xs := (List.of_mem_zip (a := p.1) (b := p.2) h).1
theorem bindL_at {X : Hid} {h : Heap} {kindOf : Str → Option NameKind} {x : Str} {av : AV} : ∀ {xs : List Str} {vs : List Value} {as : List AV} {m : Str → Option Value}, VRs X h vs as → xs.Nodup → (xs.zip as).lookup x = some av → kindOf x = some .local →
    ∃ v, bindL kindOf (xs.zip vs) m x = some v ∧ VR X h v av
  | [], _, _, _, _, _, e, _ => by simp at e
  | n :: xs, _, _, m, .nil, _, e, _ => by simp at e
  | n :: xs, v :: vs, a :: as, m, .cons V W, hn, e, l => by
    obtain ⟨h1, h2⟩ := List.nodup_cons.mp hn
    rw [List.zip_cons_cons, List.lookup_cons] at e
    rw [List.zip_cons_cons]
    unfold bindL
    split at e
    · rename_i q
      have q := beq_iff_eq.mp q
      subst q
      cases e
      rw [bindL_out (x := x) fun p hp z => h1 (z ▸ zip_fst hp), if_pos l]
      exact ⟨v, if_pos rfl, V⟩
    · exact bindL_at W h2 e l
theorem bindC_at {X : Hid} {h : Heap} {kindOf : Str → Option NameKind} {x : Str} {av : AV} : ∀ {xs : List Str} {vs : List Value} {as : List AV} {m : Str → Option Value}, VRs X h vs as → xs.Nodup → (xs.zip as).lookup x = some av → kindOf x = some .cell →
    ∃ v, bindC kindOf (xs.zip vs) m x = some v ∧ VR X h v av
  | [], _, _, _, _, _, e, _ => by simp at e
  | n :: xs, _, _, m, .nil, _, e, _ => by simp at e
  | n :: xs, v :: vs, a :: as, m, .cons V W, hn, e, l => by
    obtain ⟨h1, h2⟩ := List.nodup_cons.mp hn
    rw [List.zip_cons_cons, List.lookup_cons] at e
    rw [List.zip_cons_cons]
    unfold bindC
    split at e
    · rename_i q
      have q := beq_iff_eq.mp q
      subst q
      cases e
      rw [bindC_out (x := x) fun p hp z => h1 (z ▸ zip_fst hp), if_neg (by rw [l]; decide)]
      exact ⟨v, if_pos rfl, V⟩
    · exact bindC_at W h2 e l
theorem mem_lookup {xs : List Str} {as : List AV} {x : Str} {av : AV} (e : (xs.zip as).lookup x = some av) : x ∈ xs := (List.of_mem_zip (mem_of_lookup e)).1

theorem vlen0 {vs : List Value} (h : vs.length = 0) : vs = [] := List.eq_nil_of_length_eq_zero h
theorem vlenS {vs : List Value} {n : Nat} (h : vs.length = n + 1) : ∃ a ws, vs = a :: ws ∧ ws.length = n := by
  cases vs with
  | nil => cases h
  | cons a ws => exact ⟨a, ws, rfl, Nat.succ.inj h⟩
/-- what is asked of a function of the text -/
structure Fn (c : Cx) (f : Addr) (fd : FuncData) (body : List Stmt) (xs : List Str) : Prop where
  at_ : ∃ oc od osl, c.K.lookup f = some ⟨oc, od, .func fd, osl⟩
  code : codeIn c.K fd.code fd.qualname = true
  body_ : fd.body = .stmts body
  clo : fd.closure = []
  glob : fd.globals = mainGlobals
  bi : fd.builtins = builtinsNs
  bind : ∀ vs : List Value, vs.length = xs.length → bindArgs fd ⟨vs, []⟩ = pure (xs.zip vs)
  nodup : xs.Nodup
  kind : ∀ x ∈ xs, fd.scope.names.lookup x = some .local ∨ (fd.scope.names.lookup x = some .cell ∧ ∀ L, ((cellsFrom L fd.scope.names []).lookup x).isSome = true)
  co : fd.scope.isCoroutine = false
  gen : fd.scope.isGenerator = false
  fn : fd.scope.kind = .function

def fenv (fd : FuncData) (L f : Addr) : Env := callEnvC fd L f
def fow (fd : FuncData) (L : Addr) : List Addr := cellsOf (cellsFrom (L + 1) fd.scope.names [])
theorem Fn.ok {c : Cx} {f : Addr} {fd : FuncData} {body : List Stmt} {xs : List Str} (W : Fn c f fd body xs) (L : Addr) : EnvOk (fenv fd L f) := ⟨W.fn, W.glob, W.bi⟩

def retOf : AF → AV
  | .ret v => v
  | .next => .none

theorem code_fn {c : Cx} {N : Nat} {f : Addr} {fd : FuncData} {body : List Stmt} {xs : List Str} {args : List AV} {k : AV → AH → Prop} {hp : AH} {A : Around} {P : Pt} {s : Shared} {vs : List Value} {R : Result → Shared → Prop}
    (W : Fn c f fd body xs) (hl : args.length = xs.length) (h : ∀ L, hp L = none → Ex c N (fow fd L) (fenv fd L f) (execs body (fenv fd L f)) (fun af st' => k (retOf af) st'.hp) ⟨argsOf xs args, hp⟩)
    (hA : Room (N + 1) A) (H : HR c P hp s.heap) (V : VRs P.x s.heap vs args) (hR : ∀ v s', PCal c P s k v s' → R (.ok (.ret v)) s') : codeAny c.M A (.call (.ref f) ⟨vs, []⟩) R s := by
  obtain ⟨oc, od, osl, ho⟩ := W.at_
  have hv : vs.length = xs.length := V.length.trans hl
  have hd := hA.2.1
  have hu := hA.2.2
  refine codeAny_call_cells (by show A.depth < 1000; omega) (H.X _ _ ho) rfl (c.T.nolimit.keeps H.keep) (codeRec_of H.X W.code) W.body_ (W.bind vs hv) W.clo (fun x hx => ?_) (fun s₁ x => ?_) W.co W.gen W.fn
  · rcases W.kind x.1 (zip_fst hx) with q | ⟨q, q2⟩
    · exact .inl q
    · exact .inr ⟨q, q2 _⟩
  · obtain ⟨hs, tk, e⟩ := x.toInCall.same
    have hR1 : Room N (A.deeper (callEnvC fd s.heap.objs.size f)) := ⟨hA.1, by show A.depth + 1 + 2 * N + 2 ≤ 900; omega, by show A.units + 3 + 20 * N + 200 ≤ 9000; omega⟩
    have H1 : HR c P hp s₁.heap := H.ext x.toInCall.keep
    have hno : ∀ b, s.heap.objs.size ≤ b → P.p b = none ∧ hp b = none := fun b hb => ⟨by
      cases q : P.p b with
      | none => rfl
      | some o => exact absurd (Heap.lt_size (H.prot _ _ q)) (Nat.not_lt.mpr hb), by
      cases q : hp b with
      | none => rfl
      | some o => exact absurd (H.objs _ _ q).2.lt (Nat.not_lt.mpr hb)⟩
    have T : TK P.x s.heap P.x s₁.heap := .of x.toInCall.keep
    have F1 : FR P (fow fd s.heap.objs.size) (fenv fd s.heap.objs.size f) ⟨argsOf xs args, hp⟩ s₁.heap := by
      refine ⟨⟨_, x.toInCall.ns, fun y av e l => bindL_at (V.mono T) W.nodup e l⟩, fun y av e l => ?_, hno _ (Nat.le_refl _), fun a ha => ?_, fun y cx e => ⟨_, x.cell y cx e⟩⟩
      · rcases W.kind y (mem_lookup e) with q | ⟨q, q2⟩
        · have l' : fd.scope.names.lookup y = some .cell := l
          rw [q] at l'; cases l'
        · obtain ⟨v, e2, V2⟩ := bindC_at (m := fun _ => none) (V.mono T) W.nodup e l
          obtain ⟨cx, hcx⟩ := Option.isSome_iff_exists.mp (q2 (s.heap.objs.size + 1))
          refine ⟨cx, v, hcx, ?_, V2⟩
          have := x.cell y cx hcx
          rwa [show bindC (callEnvC fd s.heap.objs.size f).kindOf (xs.zip vs) (fun _ => none) y = some v from e2] at this
      · obtain ⟨n, e⟩ := mem_cellsOf ha
        have hlt : s.heap.objs.size < a := x.above n a (mem_of_lookup e)
        exact ⟨(hno a (Nat.le_of_lt hlt)).1, (hno a (Nat.le_of_lt hlt)).2, _, x.cell n a e⟩
    refine wpAny_mono (h _ H.fresh _ P s₁ hR1 H1 F1) (fun fl s' ⟨af, st', H', F', V', E', q⟩ => hR _ _ ?_) fun _ _ x => x.elim
    have E1 : Ext s s₁ := ⟨_, _, e⟩
    cases fl with
    | next => have e : af = .next := V'; subst e; exact ⟨.none, st'.hp, H', .none, E1.trans E', q⟩
    | ret v => obtain ⟨av, rfl, V2⟩ := V'; exact ⟨av, st'.hp, H', V2, E1.trans E', q⟩
    | brk => exact V'.elim
    | cont => exact V'.elim

theorem Cal_fn {c : Cx} {N : Nat} {f : Addr} {fd : FuncData} {body : List Stmt} {xs : List Str} {args : List AV} {k : AV → AH → Prop} {hp : AH} (W : Fn c f fd body xs) (hl : args.length = xs.length)
    (h : ∀ L, hp L = none → Ex c N (fow fd L) (fenv fd L f) (execs body (fenv fd L f)) (fun af st' => k (retOf af) st'.hp) ⟨argsOf xs args, hp⟩) : Cal c (N + 1) (.ref f) args k hp := fun A P s vs R H V =>
  wpAny_call (code_fn W hl h R H V fun v s' q => q)

/-- a class of the text is called -/
theorem Cal_cls {c : Cx} {N : Nat} {C f : Addr} {fd : FuncData} {body : List Stmt} {xs : List Str} {args : List AV} {k : AV → AH → Prop} {hp : AH} (W : Fn c f fd body xs) (hl : args.length + 1 = xs.length)
    (hm : makesIn c.K C = true) (hi : findIn c.K (.ref C) "__init__" = some (some (.ref f))) (hf : typeIn c.K (.ref f) = some (.type "function"))
    (h : ∀ x dx L, hp x = none → hp dx = none → x ≠ dx → L ≠ x → L ≠ dx → hp L = none → Ex c N (fow fd L) (fenv fd L f) (execs body (fenv fd L f)) (fun af st' => retOf af = .none ∧ k (.ref x) st'.hp) ⟨argsOf xs (.ref x :: args), upd (upd hp dx (.attrs [])) x (.inst C dx)⟩) :
    Cal c (N + 2) (.ref C) args k hp := fun A P s vs R H V => by
  refine wpAny_call ?_
  obtain ⟨hh, g, d, t, os⟩ := s
  refine make_core (makes_of H.X hm) (looks_findIn H.X hi) (fun self => bind_fn H.X self hf) (.inl rfl) ?_
  have H1 : HR c P (upd hp hh.objs.size (.attrs [])) (hh.push emptyDict) := H.new (o := emptyDict) (ao := .attrs []) ⟨[], 0, Heap.get?_push_size _ rfl, .nil, Nat.zero_le _⟩
  have hz : (hh.push emptyDict).objs.size = hh.objs.size + 1 := Heap.size_push ..
  have H2 : HR c P (upd (upd hp hh.objs.size (.attrs [])) (hh.objs.size + 1) (.inst C hh.objs.size)) ((hh.push emptyDict).push (instObj C hh.objs.size)) := by
    have := H1.new (o := instObj C hh.objs.size) (ao := .inst C hh.objs.size) (Heap.get?_push_size _ rfl)
    rwa [hz] at this
  have k0 : ∀ b o, hh.get? b = some o → ((hh.push emptyDict).push (instObj C hh.objs.size)).get? b = some o := fun b o e => Heap.get?_push_of_some _ (Heap.get?_push_of_some _ e)
  have f0 : hp hh.objs.size = none := H.fresh
  have f1 : hp (hh.objs.size + 1) = none := by
    have := H1.fresh
    rw [hz, upd_ne (Nat.succ_ne_self _)] at this
    exact this
  have hs := R.2
  have ne_none : ∀ {L b : Addr} {o : AO} {q : AH}, upd q b o L = none → L ≠ b ∧ q L = none := fun {L b o q} e => by
    unfold upd at e
    split at e
    · cases e
    · exact ⟨‹_›, e⟩
  refine code_fn (k := fun v hp' => v = .none ∧ k (.ref (hh.objs.size + 1)) hp') (N := N) W (args := .ref (hh.objs.size + 1) :: args) (by rw [List.length_cons]; exact hl) (fun L hL => ?_) ?_ H2 (.cons (.ref _) (V.mono (.of k0))) fun v s' ⟨av, hp', H', V', E', e, q⟩ => ?_
  · obtain ⟨n1, hL⟩ := ne_none hL
    obtain ⟨n2, hL⟩ := ne_none hL
    exact h _ _ L f1 f0 (Nat.succ_ne_self _) n1 n2 hL
  · refine ⟨R.1, ?_, ?_⟩
    · show A.depth + (Code.builtin "type.__call__" ⟨.ref C :: vs, []⟩).weight + 2 * (N + 1) + 2 ≤ 900
      have : (Code.builtin "type.__call__" ⟨.ref C :: vs, []⟩).weight = 1 := by kernel_rfl
      omega
    · show A.units + (Code.builtin "type.__call__" ⟨.ref C :: vs, []⟩).cUnits + 20 * (N + 1) + 200 ≤ 9000
      have : (Code.builtin "type.__call__" ⟨.ref C :: vs, []⟩).cUnits = 1 := by kernel_rfl
      omega
  · subst e
    cases V'
    exact ⟨rfl, .ref (hh.objs.size + 1), hp', H', .ref _, Ext.trans (s' := ⟨(hh.push emptyDict).push (instObj C hh.objs.size), g, d, t, os⟩) ⟨_, t, rfl⟩ E', q⟩
end Mu
end
noncomputable section
open PySem PySem.W PySem.Calls PyProof.Rows
set_option Elab.async false
set_option linter.unusedVariables false
set_option linter.unusedSectionVars false

namespace Mu
section
variable {c : Cx} {N : Nat} {ow : List Addr} {env : Env} {st : St}

theorem FR.sameBut {P : Pt} {h h' : Heap} {C : Addr} (F : FR P ow env st h) (hC : C ≠ env.locals) (hs : Heap.SameBut C h h') (ht : ∀ vs n, ¬ IsT h C vs n) (hc : ∀ v, ¬ h.IsCell C v) : FR P ow env st h' := by
  have T : TK P.x h P.x h' := .sameBut hs ht
  have hC' : ∀ {cx : Addr} {v : Option Value}, h.IsCell cx v → h'.IsCell cx v := fun {cx v} I => I.sameBut hs fun q => hc v (q ▸ I)
  obtain ⟨m, hn, hm⟩ := F.ns
  exact ⟨⟨m, hn.sameBut hs (Ne.symm hC), fun x av e l => let ⟨v, e1, V⟩ := hm x av e l; ⟨v, e1, V.mono T⟩⟩, fun x av e l => let ⟨cx, v, e1, I, V⟩ := F.cl x av e l; ⟨cx, v, e1, hC' I, V.mono T⟩, F.own,
    fun b hb => let ⟨h1, h2, v, I⟩ := F.ows b hb; ⟨h1, h2, v, hC' I⟩, fun x cx e => let ⟨v, I⟩ := F.cls x cx e; ⟨v, hC' I⟩⟩

/-- a frame seen over the run of another -/
theorem FR.over {P : Pt} {loc : AL} {hp hp' : AH} {s : Shared} {h' : Heap} {C : Addr} (F : FR P ow env ⟨loc, hp⟩ s.heap) (hC : env.locals ≠ C) (hC2 : ∀ v, ¬ s.heap.IsCell C v)
    (T : TK P.x s.heap P.x h') (H' : HR c (PFr P s hp C []) hp' h') (hnc : ∀ b ao, hp b = some ao → ∀ v, ¬ s.heap.IsCell b v) : FR P ow env ⟨loc, hp'⟩ h' := by
  have K := H'.keepsF
  have no : ∀ b o, s.heap.get? b = some o → hp b = none → b ≠ C → hp' b = none := fun b o e hb hne => H'.none_of (b := b) (o := o) (by
    simp only [PFr, pFr, pAll]; rw [if_neg (by rintro (q | q); exact hne q; cases q), hb]; exact e)
  have hC' : ∀ {cx : Addr} {v : Option Value}, s.heap.IsCell cx v → h'.IsCell cx v := fun {cx v} I => by
    obtain ⟨o, e1, e2⟩ := id I
    refine ⟨o, K cx o e1 ?_ (fun q => hC2 v (q ▸ I)) (fun q => by cases q), e2⟩
    cases q : hp cx with
    | none => rfl
    | some ao => exact absurd I (hnc cx ao q v)
  obtain ⟨m, hn, hm⟩ := F.ns
  have hn2 := hn
  obtain ⟨oL, es, ep, eL, r⟩ := hn
  refine ⟨⟨m, ⟨oL, es, ep, K _ _ eL F.own.2 hC (fun q => by cases q), r⟩, fun x av e l => let ⟨v, e1, V⟩ := hm x av e l; ⟨v, e1, V.mono T⟩⟩, fun x av e l => let ⟨cx, v, e1, I, V⟩ := F.cl x av e l; ⟨cx, v, e1, hC' I, V.mono T⟩,
    ⟨F.own.1, no _ _ eL F.own.2 hC⟩, fun b hb => ?_, fun x cx e => let ⟨v, I⟩ := F.cls x cx e; ⟨v, hC' I⟩⟩
  obtain ⟨h1, h2, v, I⟩ := F.ows b hb
  obtain ⟨o, e1, e2⟩ := id I
  exact ⟨h1, no b o e1 h2 (fun q => hC2 v (q ▸ I)), v, hC' I⟩

theorem or_notCell {X : Hid} {h : Heap} {a : Addr} {ao : AO} (r : OR c X h a ao) : ∀ v, ¬ h.IsCell a v := fun v ⟨o, e1, e2⟩ => by
  cases ao with
  | list l => obtain ⟨_, _, e, _⟩ := r; rw [e] at e1; cases e1; cases e2
  | dictI es => obtain ⟨_, ⟨_, _, _, e, _, d, _⟩, _⟩ := r; rw [e] at e1; cases e1; rw [d] at e2; cases e2
  | dictS es ep => obtain ⟨_, ⟨_, _, _, e, _, d, _⟩, _⟩ := r; rw [e] at e1; cases e1; rw [d] at e2; cases e2
  | inst C dx => have e : h.get? a = some (instObj C dx) := r; rw [e] at e1; cases e1; cases e2
  | attrs es => obtain ⟨_, _, e, _⟩ := r; rw [e] at e1; cases e1; cases e2

/-- an object is known for a while -/
theorem HR.know {P : Pt} {hp : AH} {h : Heap} {D : Addr} {ao : AO} (H : HR c P hp h) (hP : P.p D = none) (hi : mainGlobals < D) (r : OR c P.x h D ao) : HR c P (upd hp D ao) h where
  prot := H.prot
  base := H.base
  objs := fun a o e => by
    unfold upd at e
    split at e
    · rename_i q; cases e; subst q; exact ⟨hP, r⟩
    · exact H.objs a o e
  hid := H.hid
  hi := fun a o e => by
    unfold upd at e
    split at e
    · rename_i q; exact q ▸ hi
    · exact H.hi a o e
theorem HR.forget {P : Pt} {hp : AH} {h : Heap} {D : Addr} {ao : AO} (H : HR c P (upd hp D ao) h) (hD : hp D = none) : HR c P hp h where
  prot := H.prot
  base := H.base
  objs := fun a o e => H.objs a o (by rw [upd_ne (fun q => by rw [q, hD] at e; cases e)]; exact e)
  hid := H.hid
  hi := fun a o e => H.hi a o (by rw [upd_ne (fun q => by rw [q, hD] at e; cases e)]; exact e)
theorem FR.forget {P : Pt} {h : Heap} {loc : AL} {hp : AH} {D : Addr} {ao : AO} (F : FR P ow env ⟨loc, upd hp D ao⟩ h) : FR P ow env ⟨loc, hp⟩ h := by
  have z : ∀ b, upd hp D ao b = none → hp b = none := fun b e => by
    unfold upd at e
    split at e
    · cases e
    · exact e
  exact ⟨F.ns, F.cl, ⟨F.own.1, z _ F.own.2⟩, fun b hb => let ⟨h1, h2, r⟩ := F.ows b hb; ⟨h1, z _ h2, r⟩, F.cls⟩
theorem FR.stLoc {P : Pt} {h : Heap} {hp : AH} {loc : AL} (F : FR P ow env ⟨loc, hp⟩ h) {hp' : AH} (h1 : hp' env.locals = none) (h2 : ∀ a ∈ ow, hp' a = none) : FR P ow env ⟨loc, hp'⟩ h :=
  ⟨F.ns, F.cl, ⟨F.own.1, h1⟩, fun b hb => let ⟨a, _, r⟩ := F.ows b hb; ⟨a, h2 b hb, r⟩, F.cls⟩

/-- a comprehension's tests, one at most, and its element -/
def Cb (c : Cx) (N : Nat) (env : Env) (ifs : List Expr) (elt : Expr) (k : Option AV → St → Prop) (st : St) : Prop := match ifs with
  | [] => Ev c N [] env (eval elt env) (fun a st' => k (some a) st') st
  | [t] => Tst c N [] env (isTrue t env (eval t env)) (fun b st' => (b = true → Ev c N [] env (eval elt env) (fun a st'' => k (some a) st'') st') ∧ (b = false → k none st')) st
  | _ => False

def addTo (acc : List AV) : Option AV → List AV
  | some a => acc ++ [a]
  | none => acc
/-- what a comprehension knows at its start: the cells that it reads -/
def compLoc (st : St) (xs : List Str) : AL := fun x => if x ∈ xs then st.loc x else none

abbrev cEnv (scope : Scope) (cl : List (Str × Addr)) (C : Addr) (env : Env) : Env := compEnvC scope cl C env

/-- the turns of a comprehension -/
theorem comp_loop {elt target iter : Expr} {ifs : List Expr} {scope : Scope} {pos : Pos} {A : Around} {P : Pt} {s : Shared} {cenv : Env} {it : Value} {wr : List Addr} {n : Nat} {item : Nat → AV} {ok : AH → Prop} {J : Hid → Nat → Heap → Prop}
    {D : Addr} {R : Result → Shared → Prop} {I : Nat → List AV → St → Prop} (W : Itr c N target it wr n item ok J) (okc : EnvOk cenv) (hA : Room N A) (hn : n ≤ 100000)
    (hw : ∀ b ∈ wr, P.p b = none ∧ b ≠ env.locals ∧ b ∉ ow ∧ ¬ P.x b ∧ b ≠ cenv.locals ∧ b ≠ D) (hD : P.p D = none ∧ D ≠ env.locals ∧ D ∉ ow ∧ D ≠ cenv.locals ∧ mainGlobals < D) (hC : env.locals ≠ cenv.locals)
    {stx : St} {loc : AL} (h1 : HR c (P.hide wr) stx.hp s.heap) (h2 : FR (P.hide wr) [] cenv stx s.heap) (h3 : FR (P.hide wr) ow env ⟨loc, stx.hp⟩ s.heap) (h4 : OR c (P.hide wr).x s.heap D (.list [])) (h5 : stx.hp D = none) (h6 : J (P.hide wr).x 0 s.heap) (h7 : ∀ b ∈ wr, stx.hp b = none)
    (hI : I 0 [] stx)
    (turn : ∀ i acc st, i < n → I i acc st → ok st.hp ∧ Un1 c N [] cenv (assign target cenv) (item i) (fun st' => Cb c N cenv ifs elt (fun r st'' => I (i + 1) (addTo acc r) st'') st') st)
    (fin : ∀ s' stx acc, I n acc stx → HR c P stx.hp s'.heap → FR P [] cenv stx s'.heap → FR P ow env ⟨loc, stx.hp⟩ s'.heap → OR c P.x s'.heap D (.list acc) → stx.hp D = none → Ext s s' → R (.ok .next) s')
    (okn : ∀ acc st, I n acc st → ok st.hp) :
    codeAny c.M A (.compLoop (.ListComp elt [⟨target, iter, ifs, 0⟩] scope pos) 0 it (.ref D) cenv) R s := by
  have hx : ∀ b ∈ wr, (P.hide wr).x b := fun b hb => .inr hb
  have hDw : D ∉ wr := fun q => (hw D q).2.2.2.2.2 rfl
  have hLw : env.locals ∉ wr := fun q => (hw _ q).2.1 rfl
  have hCw : cenv.locals ∉ wr := fun q => (hw _ q).2.2.2.2.1 rfl
  refine codeAny_loop rfl (fun m s' => ∃ i stx acc, And12 (HR c (P.hide wr) stx.hp s'.heap) (FR (P.hide wr) [] cenv stx s'.heap) (FR (P.hide wr) ow env ⟨loc, stx.hp⟩ s'.heap) (OR c (P.hide wr).x s'.heap D (.list acc)) (stx.hp D = none) (Ext s s') (J (P.hide wr).x i s'.heap) (I i acc stx) (i ≤ n) (m = n - i) (∀ b ∈ wr, stx.hp b = none) (acc.length ≤ i)) ?_ n ⟨0, stx, [], h1, h2, h3, h4, h5, .refl _, h6, hI, Nat.zero_le _, (Nat.sub_zero _).symm, h7, Nat.le_refl _⟩
  rintro m s' ⟨i, stx, acc, Hx, Fi, Fo, Ox, hDn, Ex', Jx, Ix, hin, rfl, hnx, hacc⟩
  show wpAny _ A ((compTurn (.ListComp elt [⟨target, iter, ifs, 0⟩] scope pos) 0 it (.ref D) cenv).onRaise (fun x => do noteFrame x cenv; theTreesLotGoes x)) _ _ s'
  refine wpAny_noted (weakE ?_)
  rw [compTurn_list]
  by_cases hlt : i < n
  · obtain ⟨hok, body⟩ := turn i acc stx hlt Ix
    refine wpAny_bind (wpAny_standAt (wpAny_bind (wpAny_mono (W.next i A (P.hide wr) stx.hp s' hlt hA Hx hx hok Jx) (fun r s₁ ⟨v, e, h₁⟩ => ?_) fun _ _ x => x)))
    subst e
    dsimp only
    refine wpAny_bind (wpAny_mono h₁ (fun _ s₂ ⟨V, Jn, E₁, k₁⟩ => ?_) fun _ _ x => x)
    have T1 : TK (P.hide wr).x s'.heap (P.hide wr).x s₂.heap := tk_but hx k₁
    have H2 : HR c (P.hide wr) stx.hp s₂.heap := Hx.but hx (fun b hb => ⟨(hw b hb).1, hnx b hb⟩) (W.some Jn) k₁
    have Fi2 : FR (P.hide wr) [] cenv stx s₂.heap := Fi.but hx hCw (W.notCell Jx) k₁
    have Fo2 : FR (P.hide wr) ow env ⟨loc, stx.hp⟩ s₂.heap := Fo.but hx hLw (W.notCell Jx) k₁
    have O2 : OR c (P.hide wr).x s₂.heap D (.list acc) := Ox.mono T1 fun ob e => k₁ D ob hDw e
    have no0 : ∀ a ∈ ([] : List Addr), (P.hide wr).p a = none := fun a ha => by cases ha
    have HP := H2.allF (L := cenv.locals) (ow := []) Fi2.own.1 no0
    obtain ⟨mC, hnC, _⟩ := Fi2.ns
    -- what stands once the element is told
    have back : ∀ s₃ st₃ (r : Option AV), HR c (PFr (P.hide wr) s₂ stx.hp cenv.locals []) st₃.hp s₃.heap → FR (PFr (P.hide wr) s₂ stx.hp cenv.locals []) [] cenv st₃ s₃.heap → Ext s₂ s₃ →
        And8 (HR c (P.hide wr) st₃.hp s₃.heap) (FR (P.hide wr) [] cenv st₃ s₃.heap) (FR (P.hide wr) ow env ⟨loc, st₃.hp⟩ s₃.heap) (OR c (P.hide wr).x s₃.heap D (.list acc)) (st₃.hp D = none) (Ext s s₃) (J (P.hide wr).x (i + 1) s₃.heap) (∀ b ∈ wr, st₃.hp b = none) := fun s₃ st₃ r H₃ F₃ E₃ => by
      have K := H₃.keepsF
      have T := tk_of H2 Fi2 K
      have gone : ∀ b o, s₂.heap.get? b = some o → stx.hp b = none → b ≠ cenv.locals → st₃.hp b = none := fun b o e hb hne => H₃.none_of (b := b) (o := o) (by
        simp only [PFr, pFr, pAll]; rw [if_neg (by rintro (q | q); exact hne q; cases q), hb]; exact e)
      obtain ⟨oD, eD, _⟩ := O2.there
      refine ⟨H2.backF Fi2.own.1 no0 H₃, Fi2.pb F₃ rfl, Fo2.over hC (fun v => ns_notCell hnC) T H₃ (fun b ao e => or_notCell (H2.objs b ao e).2), O2.mono T fun ob e => K D ob e hDn hD.2.2.2.1 (fun q => by cases q), gone D oD eD hDn hD.2.2.2.1,
        Ex'.trans (E₁.trans E₃), W.keep _ _ _ _ Jn (fun b hb o e => K b o e (hnx b hb) (hw b hb).2.2.2.2.1 (fun q => by cases q)) T, fun b hb => ?_⟩
      obtain ⟨o, e⟩ := W.some Jn b hb
      exact gone b o e (hnx b hb) (hw b hb).2.2.2.2.1
    have app : ∀ s₃ v a st₃, HR c (PFr (P.hide wr) s₂ stx.hp cenv.locals []) st₃.hp s₃.heap → FR (PFr (P.hide wr) s₂ stx.hp cenv.locals []) [] cenv st₃ s₃.heap → VR (P.hide wr).x s₃.heap v a → Ext s₂ s₃ → I (i + 1) (acc ++ [a]) st₃ →
        wpAny c.M A (call (.builtin "list.append") [.ref D, v]) (fun _ s₄ => ∃ m, m < n - i ∧ ∃ i stx acc, And12 (HR c (P.hide wr) stx.hp s₄.heap) (FR (P.hide wr) [] cenv stx s₄.heap) (FR (P.hide wr) ow env ⟨loc, stx.hp⟩ s₄.heap) (OR c (P.hide wr).x s₄.heap D (.list acc)) (stx.hp D = none) (Ext s s₄) (J (P.hide wr).x i s₄.heap) (I i acc stx) (i ≤ n) (m = n - i) (∀ b ∈ wr, stx.hp b = none) (acc.length ≤ i)) NoE s₃ := fun s₃ v a st₃ H₃ F₃ V₃ E₃ q₃ => by
      obtain ⟨b1, b2, b3, b4, b5, b6, b7, b8⟩ := back s₃ st₃ none H₃ F₃ E₃
      have Hk : HR c (P.hide wr) (upd st₃.hp D (.list acc)) s₃.heap := b1.know hD.1 hD.2.2.2.2 b4
      have Fk : FR (P.hide wr) [] cenv (st₃.put D (.list acc)) s₃.heap := b2.put hD.2.2.2.1 (fun q => by cases q)
      have Fk2 : FR (P.hide wr) ow env (St.put ⟨loc, st₃.hp⟩ D (.list acc)) s₃.heap := b3.put hD.2.1 hD.2.2.1
      obtain ⟨ws, nn, hl, hV, _⟩ := b4
      refine call_meets PySem.F.slot_list_append hl.isList.typeIs PySem.F.entry_list_append (PySem.F.args_list_append_2 _ _) (list_append D ws.toArray nn v (by rw [List.size_toArray, hV.length, sizeLine_eq]; omega)) ⟨hl, ?_⟩
      have hs := Heap.SameBut.update s₃.heap D (Obj.mapSeq fun x_1 => x_1.push v)
      have r := OR_listUpd (l' := acc ++ [a]) Hk upd_same hl (fun x_1 => x_1.push v) (vs' := ws ++ [v]) (by simp) (hV.append (.one V₃)) (by rw [List.length_append, List.length_singleton]; omega)
      have Hc := Hk.chg upd_same hs r
      have Fc : FR (P.hide wr) [] cenv (St.put (st₃.put D (.list acc)) D (.list (acc ++ [a]))) _ := Fk.chg Hk upd_same hs
      have Fc2 : FR (P.hide wr) ow env (St.put (St.put ⟨loc, st₃.hp⟩ D (.list acc)) D (.list (acc ++ [a]))) _ := Fk2.chg Hk upd_same hs
      have u2 : upd (upd st₃.hp D (.list acc)) D (.list (acc ++ [a])) = upd st₃.hp D (.list (acc ++ [a])) := by funext b; unfold upd; split <;> rfl
      rw [u2] at Hc
      have Fc' : FR (P.hide wr) [] cenv ⟨st₃.loc, upd st₃.hp D (.list (acc ++ [a]))⟩ (s₃.heap.update D (Obj.mapSeq fun x_1 => x_1.push v)) := u2 ▸ Fc
      have Fc2' : FR (P.hide wr) ow env ⟨loc, upd st₃.hp D (.list (acc ++ [a]))⟩ (s₃.heap.update D (Obj.mapSeq fun x_1 => x_1.push v)) := u2 ▸ Fc2
      exact ⟨n - (i + 1), by omega, i + 1, st₃, acc ++ [a], Hc.forget b5, Fc'.forget, Fc2'.forget, r, b5, b6.trans ⟨_, _, rfl⟩, W.keep _ _ _ _ b7 (fun b hb o e => (hs.2 b (fun q => hDw (q ▸ hb))).trans e) (TK.chg Hk upd_same hs), q₃, hlt, rfl, b8, by rw [List.length_append, List.length_singleton]; omega⟩
    refine wpAny_bind (wpAny_mono (body A _ s₂ v hA HP Fi2.pf V) (fun _ s₃ ⟨st₃, H₃, F₃, E₃, q₃⟩ => ?_) fun _ _ x => x)
    match ifs, q₃ with
    | [], q₃ =>
      refine wpAny_bind (wpAny_tests_nil ?_)
      refine wpAny_bind (wpAny_bind (wpAny_mono (q₃ A _ s₃ hA H₃ F₃) (fun v s₄ ⟨a, st₄, H₄, F₄, V₄, E₄, q₄⟩ => ?_) fun _ _ x => x))
      exact wpAny_bind (wpAny_mono (app s₄ v a st₄ H₄ F₄ V₄ (E₃.trans E₄) q₄) (fun _ s₅ h₅ => wpAny_pure (wpAny_pure ⟨rfl, h₅⟩)) fun _ _ x => x)
    | [t], q₃ =>
      refine wpAny_bind (wpAny_tests_one (wpAny_mono (q₃ A _ s₃ hA H₃ F₃) (fun b s₄ ⟨st₄, H₄, F₄, E₄, q₄⟩ => ?_) fun _ _ x => x))
      cases b with
      | true =>
        refine wpAny_bind (wpAny_bind (wpAny_mono (q₄.1 rfl A _ s₄ hA H₄ F₄) (fun v s₅ ⟨a, st₅, H₅, F₅, V₅, E₅, q₅⟩ => ?_) fun _ _ x => x))
        exact wpAny_bind (wpAny_mono (app s₅ v a st₅ H₅ F₅ V₅ (E₃.trans (E₄.trans E₅)) q₅) (fun _ s₆ h₆ => wpAny_pure (wpAny_pure ⟨rfl, h₆⟩)) fun _ _ x => x)
      | false =>
        obtain ⟨b1, b2, b3, b4, b5, b6, b7, b8⟩ := back s₄ st₄ none H₄ F₄ (E₃.trans E₄)
        exact wpAny_pure ⟨rfl, n - (i + 1), by omega, i + 1, st₄, acc, b1, b2, b3, b4, b5, b6, b7, q₄.2 rfl, hlt, rfl, b8, by omega⟩
    | _ :: _ :: _, q₃ => exact q₃.elim
  · obtain rfl : i = n := Nat.le_antisymm hin (Nat.not_lt.mp hlt)
    refine wpAny_bind (wpAny_standAt (wpAny_bind (wpAny_mono (W.done A (P.hide wr) stx.hp s' hA Hx (okn _ _ Ix) Jx) (fun r s₁ ⟨e, E₁, k₁⟩ => ?_) fun _ _ x => x)))
    subst e
    refine wpAny_pure (fin s₁ stx acc Ix (Hx.leave (fun b hb => ⟨(hw b hb).1, hnx b hb, (hw b hb).2.2.2.1⟩) k₁) (Fi.leave hCw (W.notCell Jx) k₁) (Fo.leave hLw (W.notCell Jx) k₁) ?_ hDn (Ex'.trans E₁))
    exact Ox.mono (fun a vs n x e => ⟨fun q => x (.inl q), k₁ a _ (fun q => x (.inr q)) e⟩) fun ob e => k₁ D ob hDw e
end
end Mu
end
noncomputable section
open PySem PySem.W PySem.Calls PyProof.Rows
set_option Elab.async false
set_option linter.unusedVariables false
set_option linter.unusedSectionVars false

namespace Mu
section
variable {c : Cx} {N : Nat} {ow : List Addr} {env : Env} {st : St}

theorem HR.sameBut' {P : Pt} {hp : AH} {a : Addr} {h h' : Heap} (H : HR c P hp h) (hs : Heap.SameBut a h h') (ha : P.p a = none) (hb : hp a = none) (ht : ∀ vs n, ¬ IsT h a vs n) (hx : ¬ P.x a) : HR c P hp h' where
  prot := fun b o e => (hs.2 b (fun q => by rw [q, ha] at e; cases e)).trans (H.prot b o e)
  base := H.base
  objs := fun b o e => ⟨(H.objs b o e).1, (H.objs b o e).2.mono (.sameBut hs ht) fun ob q => (hs.2 b (fun q => by rw [q, hb] at e; cases e)).trans q⟩
  hid := fun b x => by
    by_cases q : b = a
    · exact absurd (q ▸ x) hx
    · obtain ⟨o, e⟩ := H.hid b x; exact ⟨o, (hs.2 b q).trans e⟩
  hi := H.hi

theorem comp_block {elt target iter : Expr} {ifs : List Expr} {scope : Scope} {cl : List (Str × Addr)} {pos : Pos} {A : Around} {P : Pt} {s₂ : Shared} {it : Value} {wr : List Addr} {n : Nat} {item : Nat → AV} {ok : AH → Prop} {J : Hid → Nat → Heap → Prop}
    {xs : List Str} {RR : Value → Addr → Result → Shared → Prop} {post : List AV → AH → Prop} (W : Itr c N target it wr n item ok J) (oke : EnvOk env) (hA : Room N A) (hn : n ≤ 100000)
    (hw : ∀ b ∈ wr, P.p b = none ∧ st.hp b = none ∧ b ≠ env.locals ∧ b ∉ ow ∧ ¬ P.x b) (H : HR c (P.hide wr) st.hp s₂.heap) (F : FR (P.hide wr) ow env st s₂.heap) (J0 : J (P.hide wr).x 0 s₂.heap)
    (hcell : ∀ y ∈ scope.names, y.2 ≠ .cell) (hkind : scope.kind = .function) (hcl : ∀ p ∈ cl, env.cells.lookup p.1 = some p.2)
    (hxs : ∀ x ∈ xs, env.kindOf x = some .cell ∧ (relabel scope env).names.lookup x = some .cell ∧ (cl.lookup x).isSome = true)
    (turn : ∀ C, st.hp C = none → C ≠ env.locals → ∃ I : Nat → List AV → St → Prop, I 0 [] ⟨compLoc st xs, st.hp⟩ ∧
      (∀ i acc st', i < n → I i acc st' → ok st'.hp ∧ Un1 c N [] (cEnv scope cl C env) (assign target (cEnv scope cl C env)) (item i) (fun st' => Cb c N (cEnv scope cl C env) ifs elt (fun r st'' => I (i + 1) (addTo acc r) st'') st') st') ∧
      (∀ acc st', I n acc st' → ok st'.hp ∧ post acc st'.hp))
    (fin : ∀ D C s' hp acc, HR c P hp s'.heap → FR P ow env ⟨st.loc, hp⟩ s'.heap → OR c P.x s'.heap D (.list acc) → hp D = none → P.p D = none → D ≠ env.locals → D ∉ ow → mainGlobals < D → (∃ m, s'.heap.Ns C m) → P.p C = none → hp C = none → C ≠ env.locals → C ≠ D → ¬ P.x C →
      Ext s₂ s' → post acc hp → RR (.ref D) C (.ok .next) s') {E : Value → Shared → Prop} :
    wpAny c.M A (newList []) (fun acc s₃ => wpAny c.M A (newFunctionEnv scope env.globals cl [] env.qual none .none (some env)) (fun cenv s₄ =>
      codeAny c.M A (.compStart (.ListComp elt [⟨target, iter, ifs, 0⟩] scope pos) 0 it acc { cenv with scope := relabel scope env }) (RR acc cenv.locals) s₄) E s₃) E s₂ := by
  refine wpAny_newObj_type (wpAny_newFunctionEnv hcell (by intro y hy; simp at hy) (fun h₁ hns₁ hsb₁ => ?_) hkind)
  dsimp only at hns₁ hsb₁ ⊢
  generalize hH2 : s₂.heap.push { cls := .type "list", dict := none, data := .seq ([] : List Value).toArray } = H2 at hns₁ hsb₁ ⊢
  have hC : H2.objs.size = s₂.heap.objs.size + 1 := by rw [← hH2, Heap.size_push]
  have HD : HR c (P.hide wr) st.hp H2 := hH2 ▸ H.push _
  have FD : FR (P.hide wr) ow env st H2 := hH2 ▸ F.push _
  have OD : OR c (P.hide wr).x H2 s₂.heap.objs.size (.list []) := hH2 ▸ OR_newList .nil (Nat.zero_le _)
  have hx1 := fresh_wr H F
  have hx2 := fresh_wr HD FD
  have hDC : s₂.heap.objs.size ≠ H2.objs.size := by rw [hC]; exact Nat.ne_of_lt (Nat.lt_succ_self _)
  have k1 : ∀ b o, H2.get? b = some o → h₁.get? b = some o := fun b o e => hsb₁.extBut b o (Nat.ne_of_lt (Heap.lt_size e)) (Heap.get?_push_of_some _ e)
  have k0 : ∀ b o, s₂.heap.get? b = some o → h₁.get? b = some o := fun b o e => k1 b o (hH2 ▸ Heap.get?_push_of_some _ e)
  have H1 : HR c (P.hide wr) st.hp h₁ := HD.ext k1
  have F1 : FR (P.hide wr) ow env st h₁ := FD.keeps k1
  have O1 : OR c (P.hide wr).x h₁ s₂.heap.objs.size (.list []) := OD.mono (.of k1) fun ob e => k1 _ _ e
  have J1 : J (P.hide wr).x 0 h₁ := W.keep _ _ _ _ J0 (fun b hb o e => k0 b o e) (.of k0)
  have hCL : H2.objs.size ≠ env.locals := hx2.2.2.1
  obtain ⟨I, hI, tn, en⟩ := turn H2.objs.size hx2.2.1 hCL
  obtain ⟨og, _, _, eg, _⟩ := c.T.g
  have gD : mainGlobals < s₂.heap.objs.size := Heap.lt_size (H.keep _ _ eg)
  have mcl : ∀ x cx, cl.lookup x = some cx → env.cells.lookup x = some cx := fun x cx e => hcl (x, cx) (mem_of_lookup e)
  have Fi : FR (P.hide wr) [] (cEnv scope cl H2.objs.size env) ⟨compLoc st xs, st.hp⟩ h₁ := by
    refine ⟨⟨_, hns₁, fun x av e l => ?_⟩, fun x av e l => ?_, ⟨hx2.1, hx2.2.1⟩, fun a ha => (by cases ha), fun x cx e => F1.cls x cx (mcl x cx e)⟩
    · simp only [compLoc] at e
      split at e
      · have l' : (relabel scope env).names.lookup x = some .local := l
        rw [(hxs x ‹_›).2.1] at l'; cases l'
      · cases e
    · simp only [compLoc] at e
      split at e
      · rename_i hm
        obtain ⟨cx, v, e1, e2, e3⟩ := F1.cl x av e (hxs x hm).1
        obtain ⟨cy, ey⟩ := Option.isSome_iff_exists.mp (hxs x hm).2.2
        have := mcl x cy ey
        rw [e1] at this; cases this
        exact ⟨cx, v, ey, e2, e3⟩
      · cases e
  have loop : ∀ s₃ : Shared, s₃ = { s₂ with heap := h₁, toks := s₂.toks + ([] : List (Str × Value)).length } →
      codeAny c.M A (.compLoop (.ListComp elt [⟨target, iter, ifs, 0⟩] scope pos) 0 it (.ref s₂.heap.objs.size) (cEnv scope cl H2.objs.size env)) (RR (.ref s₂.heap.objs.size) H2.objs.size) s₃ := by
    rintro s₃ rfl
    refine comp_loop (P := P) (ow := ow) (env := env) (stx := ⟨compLoc st xs, st.hp⟩) (loc := st.loc) W ⟨hkind, oke.glob, oke.bi⟩ hA hn (fun b hb => ?_) ⟨hx1.1, hx1.2.2.1, hx1.2.2.2.1, hDC, gD⟩ (Ne.symm hCL) H1 Fi F1 O1 hx1.2.1 J1 (fun b hb => (hw b hb).2.1) hI tn (fun s' stx acc q h2 h3 h4 h5 h6 h7 => ?_) fun acc st' q => (en acc st' q).1
    · obtain ⟨q1, q2, q3, q4, q5⟩ := hw b hb
      obtain ⟨ob, eb⟩ := H.hid b (.inr hb)
      have lb := Heap.lt_size eb
      exact ⟨q1, q3, q4, q5, by show b ≠ H2.objs.size; rw [hC]; exact Nat.ne_of_lt (Nat.lt_succ_of_lt lb), Nat.ne_of_lt lb⟩
    · obtain ⟨mm, hnC, _⟩ := h3.ns
      have e7 : Ext s₂ s' := Ext.trans (s' := { s₂ with heap := h₁, toks := s₂.toks + ([] : List (Str × Value)).length }) ⟨_, _, rfl⟩ h7
      exact fin _ _ s' stx.hp acc h2 h4 h5 h6 hx1.1 hx1.2.2.1 hx1.2.2.2.1 gD ⟨mm, hnC⟩ h3.own.1 h3.own.2 hCL (Ne.symm hDC) (fun q => hx2.2.2.2.2 (.inl q)) e7 (en acc stx q).2
  exact codeAny_compStart_list (loop _ rfl) (W.self _ 0 _ _ _ _ J1 (loop _ rfl))

/-- what is asked of a comprehension -/
def CompOk (c : Cx) (N : Nat) (env : Env) (target : Expr) (ifs : List Expr) (elt : Expr) (scope : Scope) (cl : List (Str × Addr)) (xs : List Str) (post : List AV → AH → Prop) (n : Nat) (item : Nat → AV) (ok : AH → Prop) (st : St) : Prop :=
  n ≤ 100000 ∧ ∀ C, st.hp C = none → C ≠ env.locals → ∃ I : Nat → List AV → St → Prop, I 0 [] ⟨compLoc st xs, st.hp⟩ ∧
      (∀ i acc st', i < n → I i acc st' → ok st'.hp ∧ Un1 c N [] (cEnv scope cl C env) (assign target (cEnv scope cl C env)) (item i) (fun st' => Cb c N (cEnv scope cl C env) ifs elt (fun r st'' => I (i + 1) (addTo acc r) st'') st') st') ∧
      (∀ acc st', I n acc st' → ok st'.hp ∧ post acc st'.hp)

theorem Ev_ListComp {elt target iter : Expr} {ifs : List Expr} {scope : Scope} {cl : List (Str × Addr)} {pos : Pos} {xs : List Str} {k : AV → St → Prop} (oke : EnvOk env)
    (h : Src c N ow env target (eval iter env) (fun n item ok st₁ => CompOk c N env target ifs elt scope cl xs (fun acc hp => ∀ D, hp D = none → k (.ref D) ⟨st₁.loc, upd hp D (.list acc)⟩) n item ok st₁) st)
    (hclos : closureFor scope env = pure cl := by rfl) (hcell : ∀ y ∈ scope.names, y.2 ≠ .cell := by decide) (hkind : scope.kind = .function := by rfl) (hnames : ∀ y ∈ scope.names, y.2 = .local → scope.names.lookup y.1 = some .local := by decide)
    (hcl : ∀ p ∈ cl, env.cells.lookup p.1 = some p.2 := by simp) (hxs : ∀ x ∈ xs, env.kindOf x = some .cell ∧ (relabel scope env).names.lookup x = some .cell ∧ (cl.lookup x).isSome = true := by simp)
    (hs : ∀ x, foldedSetIterable iter env x = pure x := by intro _; rfl) : Ev c N ow env (eval (.ListComp elt [⟨target, iter, ifs, 0⟩] scope pos) env) k st := fun A P s R H F => by
  rw [eval_ListComp]
  refine wpAny_comprehension_free (use := none) rfl hs hclos hkind hnames (wpAny_mono (h A P s R H F) (fun xv s₁ h₁ => wpAny_mono h₁ (fun it s₂ h₂ => ?_) fun _ _ e => e) fun _ _ e => e)
  obtain ⟨st₁, wr, n, item, ok, J, W, H₂, F₂, E₂, hJ, hw, hn, tn⟩ := h₂
  refine comp_block (post := fun acc hp => ∀ D, hp D = none → k (.ref D) ⟨st₁.loc, upd hp D (.list acc)⟩) (RR := fun acc C => compPost c.M A NoE none (PEv c P ow env s k) acc C) W oke R hn hw H₂ F₂ hJ hcell hkind hcl hxs tn ?_
  intro D C s' hp acc h1 h2 h3 h4 h5 h6 h7 h8 ⟨mm, h9⟩ h10 h11 h12 h13 hx h14 h15
  refine ⟨mm, h9, fun h' hs' => ⟨.ref D, ⟨st₁.loc, upd hp D (.list acc)⟩, ?_, ?_, .ref _, E₂.trans (h14.trans ⟨_, _, rfl⟩), h15 D h4⟩⟩
  · have q := h1.sameBut' hs' h10 h11 (ns_notT h9) hx
    exact q.know h5 h8 (h3.mono (.sameBut hs' (ns_notT h9)) fun ob e => (hs'.2 D (Ne.symm h13)).trans e)
  · exact (h2.sameBut h12 hs' (ns_notT h9) (fun v => ns_notCell h9)).put h6 h7

/-- a comprehension that goes to a name at once -/
theorem Ex_AssignComp {elt target iter : Expr} {ifs : List Expr} {scope : Scope} {cl : List (Str × Addr)} {pos spos py : Pos} {y : Str} {xs : List Str} {k : AF → St → Prop} (oke : EnvOk env)
    (h : Src c N ow env target (eval iter env) (fun n item ok st₁ => CompOk c N env target ifs elt scope cl xs (fun acc hp => ∀ D, hp D = none → k .next (St.set ⟨st₁.loc, upd hp D (.list acc)⟩ y (.ref D))) n item ok st₁) st)
    (hsw : swapsWith (.ListComp elt [⟨target, iter, ifs, 0⟩] scope pos) (some (.Name y py)) spos.line env = pure true := by rfl) (hy : env.kindOf y = some .local := by rfl)
    (hclos : closureFor scope env = pure cl := by rfl) (hcell : ∀ y ∈ scope.names, y.2 ≠ .cell := by decide) (hkind : scope.kind = .function := by rfl) (hnames : ∀ y ∈ scope.names, y.2 = .local → scope.names.lookup y.1 = some .local := by decide)
    (hcl : ∀ p ∈ cl, env.cells.lookup p.1 = some p.2 := by simp) (hxs : ∀ x ∈ xs, env.kindOf x = some .cell ∧ (relabel scope env).names.lookup x = some .cell ∧ (cl.lookup x).isSome = true := by simp)
    (hs : ∀ x, foldedSetIterable iter env x = pure x := by intro _; rfl) : Ex c N ow env (exec (.Assign [.Name y py] (.ListComp elt [⟨target, iter, ifs, 0⟩] scope pos) spos) env) k st := fun A P s R H F => by
  rw [exec_Assign_Name_used _ _ _ _ hsw]
  refine wpAny_bind (wpAny_standAt (wpAny_bind ?_))
  show wpAny _ A (do let _ ← comprehension (.ListComp elt [⟨target, iter, ifs, 0⟩] scope pos) scope env _ (newList []) false (eval iter env) (some (assign (.Name y py) env))) _ _ s
  refine wpAny_bind (wpAny_mono (wpAny_comprehension_free (use := some (assign (.Name y py) env)) (Q := fun _ s' => PEx c P ow env s k .next s') rfl hs hclos hkind hnames
    (wpAny_mono (h A P s R H F) (fun xv s₁ h₁ => wpAny_mono h₁ (fun it s₂ h₂ => ?_) fun _ _ e => e) fun _ _ e => e)) (fun _ s' hq => wpAny_pure (wpAny_pure hq)) fun _ _ e => e)
  obtain ⟨st₁, wr, n, item, ok, J, W, H₂, F₂, E₂, hJ, hw, hn, tn⟩ := h₂
  refine comp_block (post := fun acc hp => ∀ D, hp D = none → k .next (St.set ⟨st₁.loc, upd hp D (.list acc)⟩ y (.ref D))) (RR := fun acc C => compPost c.M A NoE (some (assign (.Name y py) env)) (fun _ s' => PEx c P ow env s k .next s') acc C) W oke R hn hw H₂ F₂ hJ hcell hkind hcl hxs tn ?_
  intro D C s' hp acc h1 h2 h3 h4 h5 h6 h7 h8 ⟨mm, h9⟩ h10 h11 h12 h13 hx h14 h15
  show wpAny _ A (assign (.Name y py) env (.ref D)) _ _ _
  have HK : HR c P (upd hp D (.list acc)) s'.heap := h1.know h5 h8 h3
  have FK : FR P ow env ⟨st₁.loc, upd hp D (.list acc)⟩ s'.heap := h2.put h6 h7
  have un : Un1 c N ow env (assign (.Name y py) env) (.ref D) (fun st' => k .next st') ⟨st₁.loc, upd hp D (.list acc)⟩ := Un1_Name (Un_loc oke hy (h15 D h4))
  obtain ⟨m, hn', hm⟩ := FK.ns
  refine wpAny_assign_Name (wpAny_storeName_local hy hn' (fun h₂ hn₂ hs₂ => ?_) (by simp [oke.kind]))
  have hCL : C ≠ env.locals := h12
  have n2 : h₂.Ns C mm := h9.sameBut hs₂ hCL
  refine ⟨mm, n2, fun h₃ hs₃ => ?_⟩
  have T : TK P.x s'.heap P.x h₂ := .sameBut hs₂ (ns_notT hn')
  have H2 := HK.sameBut hs₂ FK.own.1 FK.own.2 (ns_notT hn') (let ⟨o, _, _, e, _⟩ := hn₂; ⟨o, e⟩)
  have F2 : FR P ow env (St.set ⟨st₁.loc, upd hp D (.list acc)⟩ y (.ref D)) h₂ := by
    refine ⟨⟨_, hn₂, fun z av e l => ?_⟩, fun z av e l => ?_, FK.own, fun b hb => ?_, fun z cx e => ?_⟩
    · simp only [St.set] at e
      split at e
      · cases e; exact ⟨.ref D, if_pos ‹_›, .ref _⟩
      · obtain ⟨u, e1, e2⟩ := hm z av e l
        exact ⟨u, (if_neg ‹_›).trans e1, e2.mono T⟩
    · simp only [St.set] at e
      split at e
      · rename_i q; subst q; rw [hy] at l; cases l
      · obtain ⟨cx, u, e1, e2, e3⟩ := FK.cl z av e l
        exact ⟨cx, u, e1, e2.sameBut hs₂ (fun q => ns_notCell hn' (q ▸ e2)), e3.mono T⟩
    · obtain ⟨q1, q2, u, e2⟩ := FK.ows b hb
      exact ⟨q1, q2, u, e2.sameBut hs₂ (fun q => ns_notCell hn' (q ▸ e2))⟩
    · obtain ⟨u, e2⟩ := FK.cls z cx e
      exact ⟨u, e2.sameBut hs₂ (fun q => ns_notCell hn' (q ▸ e2))⟩
  have hC2 : upd hp D (.list acc) C = none := (upd_ne h13).trans h11
  exact ⟨.next, _, H2.sameBut' hs₃ h10 hC2 (ns_notT n2) hx, F2.sameBut hCL hs₃ (ns_notT n2) (fun v => ns_notCell n2), rfl, E₂.trans (h14.trans ⟨_, _, rfl⟩), h15 D h4⟩
end
end Mu
end
noncomputable section
open PySem PySem.W PySem.Calls PyProof.Rows
set_option Elab.async false
set_option linter.unusedVariables false
set_option linter.unusedSectionVars false

namespace Mu
section
variable {c : Cx} {N : Nat} {ow : List Addr} {env : Env} {st : St}

theorem tuple_it_ne : Value.type "tuple_iterator" ≠ Value.type "tuple" := by decide
theorem str_it_ne : Value.type "str_ascii_iterator" ≠ Value.type "tuple" := by decide
theorem key_it_ne : Value.type "dict_keyiterator" ≠ Value.type "tuple" := by decide

theorem itr_tuple {target : Expr} {I t : Addr} {l : List AV} (hne : t ≠ I) : Itr c N target (.ref I) [I] l.length (fun i => l.getD i .none) (fun _ => True)
    (fun X i h => h.IsTupleIter I t i ∧ ∃ vs n, IsT h t (List.toArray vs) n ∧ ¬ X t ∧ VRs X h vs l) where
  keep := fun X i h h' ⟨J, vs, n, hT, hx, hV⟩ k T => ⟨J.at fun o e => k I (by simp) o e, vs, n, (T _ _ _ hx hT).2, (T _ _ _ hx hT).1, hV.mono T⟩
  there := fun X i h ⟨J, _⟩ b hb => by
    obtain rfl := List.mem_singleton.mp hb
    obtain ⟨o, e, _, d⟩ := J
    exact ⟨o, e, fun v q => by rw [d] at q; cases q⟩
  next := fun i A P hp s hi R H hx hok ⟨J, vs, n, hT, hnx, hV⟩ => by
    have hg : l[i]? = some (l.getD i .none) := by rw [List.getD_eq_getElem?_getD, List.getElem?_eq_getElem hi]; rfl
    obtain ⟨v, e, Vv⟩ := hV.get hg
    refine wpAny_pyNext_tuple_item J (isT_tuple hT) (x := v) (by simpa using e) fun h' J' hs' => ⟨v, rfl, ?_⟩
    obtain ⟨o, e1, e2, e3⟩ := id J'
    have K : KeepBut [I] s.heap h' := fun b o hb e => (hs'.2 b (fun q => hb (by simp [q]))).trans e
    have T := tk_but hx K
    exact letGo_other e1 ⟨_, e2, by decide⟩ ⟨Vv.mono T, ⟨J', vs, n, (T _ _ _ hnx hT).2, hnx, hV.mono T⟩, ⟨_, _, rfl⟩, K⟩
  done := fun A P hp s R H hok ⟨J, vs, n, hT, hnx, hV⟩ =>
    wpAny_pyNext_tuple_end R.1 J (isT_tuple hT) (by rw [List.getElem?_toArray, List.getElem?_eq_none]; rw [hV.length]; exact Nat.le_refl _) fun h' he => ⟨rfl, ⟨_, _, rfl⟩, fun b o hb e => he b o (fun q => hb (by simp [q])) e⟩
  self := fun X i A s Q E J q => wpAny_pyIter_tupleiter J.1 q

/-- a fresh iterator of one object -/
theorem src_one {P : Pt} {s₁ : Shared} {st₁ : St} {o : Obj} (H₁ : HR c P st₁.hp s₁.heap) (F₁ : FR P ow env st₁ s₁.heap) (ho : o.isFreed = false) (hc : o.cls ≠ .type "tuple") :
    (s₁.heap.push o).get? s₁.heap.objs.size = some o ∧ HR c (P.hide [s₁.heap.objs.size]) st₁.hp (s₁.heap.push o) ∧ FR (P.hide [s₁.heap.objs.size]) ow env st₁ (s₁.heap.push o) ∧
      ∀ b ∈ [s₁.heap.objs.size], P.p b = none ∧ st₁.hp b = none ∧ b ≠ env.locals ∧ b ∉ ow ∧ ¬ P.x b := by
  have hg : (s₁.heap.push o).get? s₁.heap.objs.size = some o := Heap.get?_push_size _ ho
  have ht : ∀ b ∈ [s₁.heap.objs.size], (∃ o', (s₁.heap.push o).get? b = some o') ∧ ∀ vs n, ¬ IsT (s₁.heap.push o) b vs n := fun b hb => by
    obtain rfl := List.mem_singleton.mp hb
    exact ⟨⟨_, hg⟩, notT_cls hg hc⟩
  exact ⟨hg, (H₁.push _).hide ht, (F₁.push _).hide (fun b hb => (ht b hb).2), fun b hb => by obtain rfl := List.mem_singleton.mp hb; exact fresh_wr H₁ F₁⟩

theorem Src_tuple {target : Expr} {t : Sem Value} {K : Nat → (Nat → AV) → (AH → Prop) → St → Prop}
    (h : Ev c N ow env t (fun a st₁ => ∃ l, a = .tup l ∧ K l.length (fun i => l.getD i .none) (fun _ => True) st₁) st) : Src c N ow env target t K st := fun A P s R H F =>
  h.then R H F fun v s₁ a st₁ H₁ F₁ V₁ E₁ ⟨l, e, q⟩ _ _ => by
    subst e
    apply V₁.rT; intro t vs n hT hx hV
    refine wpAny_pyIter_tuple (isT_tuple hT) ?_
    obtain ⟨hg, h1, h2, h3⟩ := src_one (o := { cls := .type "tuple_iterator", data := .fields #[.ref t, .int 0 0] }) H₁ F₁ rfl tuple_it_ne
    have hne : t ≠ s₁.heap.objs.size := Nat.ne_of_lt (Heap.lt_size hT)
    have T : TK P.x s₁.heap (P.hide [s₁.heap.objs.size]).x (s₁.heap.push { cls := .type "tuple_iterator", data := .fields #[.ref t, .int 0 0] }) := fun a vs n x e =>
      ⟨fun q => q.elim x fun q => by obtain rfl := List.mem_singleton.mp q; exact absurd (Heap.lt_size e) (Nat.lt_irrefl _), Heap.get?_push_of_some _ e⟩
    exact ⟨st₁, [s₁.heap.objs.size], _, _, _, _, itr_tuple (l := l) hne, h1, h2, E₁.trans ⟨_, _, rfl⟩, ⟨⟨_, hg, rfl, rfl⟩, vs, n, (T _ _ _ hx hT).2, (T _ _ _ hx hT).1, hV.mono T⟩, h3, q⟩

-- a str of plain signs
def ascii (x : Str) : Bool := x.cps.all (· < 128)
def signAt (x : Str) (i : Nat) : Str := ⟨#[x.cps.getD i 0]⟩
theorem itr_str {target : Expr} {I : Addr} {x : Str} {t : Tok} : Itr c N target (.ref I) [I] x.cps.size (fun i => .str (signAt x i)) (fun _ => True) (fun X i h => h.IsStrIter I "str_ascii_iterator" x t i) where
  keep := fun X i h h' J k T => let ⟨o, e, r⟩ := J; ⟨o, k I (by simp) o e, r⟩
  there := fun X i h J b hb => by
    obtain rfl := List.mem_singleton.mp hb
    obtain ⟨o, e, _, d⟩ := J
    exact ⟨o, e, fun v q => by rw [d] at q; cases q⟩
  next := fun i A P hp s hi R H hx hok J => by
    have hg : x.cps[i]? = some (x.cps.getD i 0) := by simp [hi]
    refine wpAny_pyNext_ascii_item J hg fun h' J' hs' => ⟨_, rfl, ?_⟩
    obtain ⟨o, e1, e2, e3⟩ := id J'
    exact letGo_other e1 ⟨_, e2, by decide⟩ ⟨.str _ _, J', ⟨_, _, rfl⟩, fun b o hb e => (hs'.2 b (fun q => hb (by simp [q]))).trans e⟩
  done := fun A P hp s R H hok J => wpAny_pyNext_ascii_end R.1 J (by simp) fun h' he => ⟨rfl, ⟨_, _, rfl⟩, fun b o hb e => he b o (fun q => hb (by simp [q])) e⟩
  self := fun X i A s Q E J q => wpAny_pyIter_striter_ascii J q
theorem Src_str {target : Expr} {t : Sem Value} {K : Nat → (Nat → AV) → (AH → Prop) → St → Prop}
    (h : Ev c N ow env t (fun a st₁ => ∃ x, a = .str x ∧ ascii x = true ∧ K x.cps.size (fun i => .str (signAt x i)) (fun _ => True) st₁) st) : Src c N ow env target t K st := fun A P s R H F =>
  h.then R H F fun v s₁ a st₁ H₁ F₁ V₁ E₁ ⟨x, e, hx, q⟩ _ _ => by
    subst e
    apply V₁.rS; intro t
    refine wpAny_pyIter_ascii hx ?_
    obtain ⟨hg, h1, h2, h3⟩ := src_one (o := { cls := .type "str_ascii_iterator", data := .fields #[.str x t, .int 0 0] }) H₁ F₁ rfl str_it_ne
    exact ⟨st₁, [s₁.heap.objs.size], _, _, _, _, itr_str (x := x) (t := t), h1, h2, E₁.trans ⟨_, _, rfl⟩, ⟨_, hg, rfl, rfl⟩, h3, q⟩
end

-- the keys of a dict with tuple keys
section
variable {prog : Program} {w : World} {A : Around} {E : Value → Shared → Prop} {s : Shared}
/-- a dict's plain entries -/
def DictIs (h : Heap) (d : Addr) (es : Array DictEntry) (ep : Nat) : Prop := ∃ o, h.get? d = some o ∧ o.ExactDict ∧ o.data = .dict es ep
theorem DictIs.typeIs {d : Addr} {es : Array DictEntry} {ep : Nat} (x : DictIs s.heap d es ep) : s.TypeIs (.ref d) "dict" := let ⟨o, e, hc, _⟩ := x; ⟨o, e, hc.1⟩

theorem iter_dict {d : Addr} {es : Array DictEntry} {ep : Nat} {Q : Value → Shared → Prop} (hd : (d == sysModules) = false) (hm : DictIs s.heap d es ep)
    (hQ : Q (.ref s.heap.objs.size) { s with heap := s.heap.push { cls := .type "dict_keyiterator", data := .fields #[.ref d, .int 0 0, .int es.size 0, .int ep 0] } }) :
    wpAny (model prog w) A (pyIter (.ref d)) Q E s := by
  have hT := hm.typeIs
  obtain ⟨o, ho, hc, hdat⟩ := hm
  refine wpAny_pyIter_slot hT F.slot_dict_iter (wpAny_call_entry F.slot_dict_iter hT F.entry_dict_iter ?_ (F.args_dict_iter_1 _))
  unfold Builtin.«dict.__iter__» Builtin.Dict.dictSlotNone
  refine wpAny_bind (wpAny_bind (wpAny_notOrdered_dict hT (wpAny_pure ?_)))
  show wpAny _ _ (Builtin.Dict.showsAll d >>= _) _ _ s
  unfold Builtin.Dict.showsAll
  rw [if_neg (by rw [hd]; exact Bool.false_ne_true)]
  refine wpAny_bind (wpAny_pure (wpAny_bind (wpAny_dictEntries ho hdat (wpAny_bind (wpAny_dictEpoch ho hdat ?_)))))
  exact wpAny_bind (wpAny_newObj_type (wpAny_pure ⟨_, rfl, "dict_keyiterator", _, ⟨_, Heap.get?_push_size _ rfl, rfl⟩, F.slot_dict_keyiterator_next.lookup, hQ⟩))

theorem next_key {it d : Addr} {i ep : Nat} {es : Array DictEntry} {e : DictEntry} {Q : Option Value → Shared → Prop} (hit : s.heap.IsKeyIter it d i es.size ep) (hm : DictIs s.heap d es ep) (hx : es[i]? = some e)
    (hQ : ∀ h', h'.IsKeyIter it d (i + 1) es.size ep → Heap.SameBut it s.heap h' → Q (some e.key) { s with heap := h' }) :
    wpAny (model prog w) A (pyNext (.ref it)) Q E s := by
  obtain ⟨o, ho, hc, hd⟩ := id hit
  obtain ⟨od, hod, hcd, hdd⟩ := hm
  have hlt : i < es.size := (Array.getElem?_eq_some_iff.mp hx).1
  unfold pyNext
  refine wpAny_bind (wpAny_attempt (wpAny_callSpecial?_slot (name := Str.ofString "__next__") hit.typeIs F.slot_dict_keyiterator_next
    (wpAny_call_entry F.slot_dict_keyiterator_next hit.typeIs F.entry_dict_keyiterator_next ?_ (F.args_dict_keyiterator_next_1 _))))
  refine wpAny_bind (wpAny_pure (wpAny_bind (wpAny_bind ?_)))
  first | refine wpAny_bind (wpAny_typeNameOfWhole_keyiter hit.typeIs (wpAny_pure ?_)) | refine wpAny_bind (wpAny_typeNameOf_keyiter hit.typeIs (wpAny_pure ?_))
  refine wpAny_bind (wpAny_fieldsOf ho hd ?_)
  simp only [show Builtin.Dict_items.ownsTuple "dict_keyiterator" = false by decide, Bool.false_eq_true, if_false]
  show wpAny _ _ (if (Value.ref d == Value.none) = true then _ else _) _ _ s
  rw [if_neg (show ¬ ((Value.ref d == Value.none) = true) from Bool.false_ne_true)]
  refine wpAny_bind (wpAny_pure (wpAny_bind (wpAny_dictEntries hod hdd ?_)))
  rw [if_neg (by simp)]
  refine wpAny_bind (wpAny_pure (wpAny_bind (wpAny_dictEpoch hod hdd ?_)))
  rw [if_neg (by simp)]
  refine wpAny_pure ?_
  simp only [show ¬ ((i : Int) < 0) from by omega, if_false, Int.toNat_natCast, hx]
  refine wpAny_bind ?_
  first | refine wpAny_bind (wpAny_typeNameOfWhole_keyiter hit.typeIs (wpAny_pure ?_)) | refine wpAny_bind (wpAny_typeNameOf_keyiter hit.typeIs (wpAny_pure ?_))
  refine wpAny_bind (wpAny_isOneOf_keyiter hit.typeIs ?_)
  show wpAny _ _ (setField (.ref it) 1 (rawInt ((i : Int) + 1)) >>= _) _ _ s
  refine wpAny_bind (wpAny_setField ho hd (by simp) ?_)
  have hit' : (s.heap.update it (Obj.mapFields (·.setIfInBounds 1 (rawInt ((i : Int) + 1))))).IsKeyIter it d (i + 1) es.size ep :=
    ⟨_, Heap.get?_update_self _ ho (Obj.isFreed_of_fields (Obj.data_mapFields hd _)), (Obj.cls_mapFields ..).trans hc, by rw [Obj.data_mapFields hd]; simp [rawInt]⟩
  refine wpAny_bind (wpAny_holding (wpAny_bind (wpAny_isOneOf_keyiter (s := { s with heap := s.heap.update it (Obj.mapFields (·.setIfInBounds 1 (rawInt ((i : Int) + 1)))) }) hit'.typeIs ?_)))
  show wpAny _ _ (pure e.key) _ _ _
  exact wpAny_pure (wpAny_pure ⟨_, rfl, wpAny_pure (hQ _ hit' (Heap.SameBut.update ..))⟩)

theorem end_key {it d : Addr} {ep : Nat} {es : Array DictEntry} {Q : Option Value → Shared → Prop} (hh : A.handled = none) (hit : s.heap.IsKeyIter it d es.size es.size ep) (hm : DictIs s.heap d es ep)
    (hQ : ∀ h', Heap.ExtBut it s.heap h' → Q none { s with heap := h' }) : wpAny (model prog w) A (pyNext (.ref it)) Q E s := by
  obtain ⟨o, ho, hc, hd⟩ := id hit
  obtain ⟨od, hod, hcd, hdd⟩ := hm
  unfold pyNext
  refine wpAny_bind (wpAny_attempt (wpAny_callSpecial?_slot (name := Str.ofString "__next__") hit.typeIs F.slot_dict_keyiterator_next
    (wpAny_call_entry F.slot_dict_keyiterator_next hit.typeIs F.entry_dict_keyiterator_next ?_ (F.args_dict_keyiterator_next_1 _))))
  refine wpAny_bind (wpAny_pure (wpAny_bind (wpAny_bind ?_)))
  first | refine wpAny_bind (wpAny_typeNameOfWhole_keyiter hit.typeIs (wpAny_pure ?_)) | refine wpAny_bind (wpAny_typeNameOf_keyiter hit.typeIs (wpAny_pure ?_))
  refine wpAny_bind (wpAny_fieldsOf ho hd ?_)
  simp only [show Builtin.Dict_items.ownsTuple "dict_keyiterator" = false by decide, Bool.false_eq_true, if_false]
  show wpAny _ _ (if (Value.ref d == Value.none) = true then _ else _) _ _ s
  rw [if_neg (show ¬ ((Value.ref d == Value.none) = true) from Bool.false_ne_true)]
  refine wpAny_bind (wpAny_pure (wpAny_bind (wpAny_dictEntries hod hdd ?_)))
  rw [if_neg (by simp)]
  refine wpAny_bind (wpAny_pure (wpAny_bind (wpAny_dictEpoch hod hdd ?_)))
  rw [if_neg (by simp)]
  refine wpAny_pure ?_
  simp only [show ¬ ((es.size : Int) < 0) from by omega, if_false, Int.toNat_natCast, Array.getElem?_eq_none (Nat.le_refl es.size)]
  refine wpAny_bind ?_
  first | refine wpAny_bind (wpAny_typeNameOfWhole_keyiter hit.typeIs (wpAny_pure ?_)) | refine wpAny_bind (wpAny_typeNameOf_keyiter hit.typeIs (wpAny_pure ?_))
  show wpAny _ _ (setField (.ref it) 0 .none >>= _) _ _ s
  refine wpAny_bind (wpAny_setField ho hd (by simp) ?_)
  show wpAny _ _ (newExc (.type "StopIteration") [] >>= _) _ _ _
  refine wpAny_bind ?_
  simp only [newExc, newTuple]
  refine wpAny_bind (wpAny_newObj_type ?_ (by size_fits))
  refine wpAny_bind (m := firstArgMember _ _) (wpAny_of_eq (a := Value.none) (by first | rfl | (simp only [firstArgMember]; rfl)) ?_)
  refine wpAny_newObj_type ?_ (by size_fits)
  simp only [raiseNew]
  refine wpAny_bind (wpAny_handled ?_)
  rw [show A.in1.handled = none from hh]
  refine wpAny_bind (wpAny_pure (wpAny_throw ?_))
  refine wpAny_bind (wpAny_isInstance (T := "StopIteration") (b := true) ⟨_, Heap.get?_push_size _ rfl, rfl⟩ isSubtype_stop ?_)
  exact wpAny_pure (hQ _ (((Heap.SameBut.update ..).extBut.push _).push _))
end

section
variable {c : Cx} {N : Nat} {ow : List Addr} {env : Env} {st : St}
/-- what a dictS is, concretely -/
theorem dictS_is {P : Pt} {hp : AH} {h : Heap} {d : Addr} {es : List (List Str × AV)} {ep : Nat} (r : OR c P.x h d (.dictS es ep)) : ∃ (ar : Array DictEntry), DictIs h d ar ep ∧ ar.size = es.length ∧
    ∀ (i : Nat) (k : List Str × AV), es[i]? = some k → ∃ e : DictEntry, ar[i]? = some e ∧ VR P.x h e.key (aS k.1) := by
  obtain ⟨xs, ⟨o, ar, ep', e1, e2, e3, e4, e5, e6⟩, kv, _, hep⟩ := r
  obtain rfl := hep _ _ _ e1 e3
  refine ⟨ar, ⟨o, e1, e2, e3⟩, ?_, fun i k hk => ?_⟩
  · rw [size_of_entries e4, kv.length]
  · rw [entry_at e4 i]
    obtain ⟨v, hv, V⟩ := kv.keys.get (k := i) (d := aS k.1) (by rw [List.getElem?_map, hk]; rfl)
    rw [List.getElem?_map] at hv
    obtain ⟨x, hx, rfl⟩ := Option.map_eq_some_iff.mp hv
    exact ⟨_, by rw [hx]; rfl, V⟩
theorem itr_keys {target : Expr} {I d : Addr} {es : List (List Str × AV)} {ep : Nat} : Itr c N target (.ref I) [I] es.length (fun i => aS ((es.map (·.1)).getD i [])) (fun hp => hp d = some (.dictS es ep)) (fun _ i h => h.IsKeyIter I d i es.length ep) where
  keep := fun X i h h' J k T => J.at fun o e => k I (by simp) o e
  there := fun X i h J b hb => by
    obtain rfl := List.mem_singleton.mp hb
    obtain ⟨o, e, _, d⟩ := J
    exact ⟨o, e, fun v q => by rw [d] at q; cases q⟩
  next := fun i A P hp s hi R H hx hok J => by
    obtain ⟨ar, h1, h2, h3⟩ := dictS_is (hp := hp) (H.objs d _ hok).2
    obtain ⟨e, h4, V⟩ := h3 i es[i] (by simp [hi])
    rw [← h2] at J
    refine next_key J h1 h4 fun h' J' hs' => ⟨_, rfl, ?_⟩
    rw [h2] at J'
    obtain ⟨o, e1, e2, e3⟩ := id J'
    have K : KeepBut [I] s.heap h' := fun b o hb e => (hs'.2 b (fun q => hb (by simp [q]))).trans e
    have g : (es.map (·.1)).getD i [] = es[i].1 := by rw [List.getD_eq_getElem?_getD, List.getElem?_map, List.getElem?_eq_getElem hi]; rfl
    exact letGo_other e1 ⟨_, e2, by decide⟩ ⟨by rw [g]; exact V.mono (tk_but hx K), J', ⟨_, _, rfl⟩, K⟩
  done := fun A P hp s R H hok J => by
    obtain ⟨ar, h1, h2, h3⟩ := dictS_is (hp := hp) (H.objs d _ hok).2
    rw [← h2] at J
    exact end_key R.1 J h1 fun h' he => ⟨rfl, ⟨_, _, rfl⟩, fun b o hb e => he b o (fun q => hb (by simp [q])) e⟩
  self := fun X i A s Q E J q => wpAny_pyIter_keyiter J q
theorem Src_keys {target : Expr} {t : Sem Value} {K : Nat → (Nat → AV) → (AH → Prop) → St → Prop}
    (h : Ev c N ow env t (fun a st₁ => ∃ d es ep, a = .ref d ∧ st₁.hp d = some (.dictS es ep) ∧ K es.length (fun i => aS ((es.map (·.1)).getD i [])) (fun hp => hp d = some (.dictS es ep)) st₁) st) : Src c N ow env target t K st := fun A P s R H F =>
  h.then R H F fun v s₁ a st₁ H₁ F₁ V₁ E₁ ⟨d, es, ep, e, ho, q⟩ _ _ => by
    subst e
    apply V₁.rf
    obtain ⟨ar, hd, hz, _⟩ := dictS_is (hp := st₁.hp) (H₁.objs d _ ho).2
    refine iter_dict (H₁.notSys ho) hd ?_
    obtain ⟨hg, h1, h2, h3⟩ := src_one (o := { cls := .type "dict_keyiterator", data := .fields #[.ref d, .int 0 0, .int ar.size 0, .int ep 0] }) H₁ F₁ rfl key_it_ne
    exact ⟨st₁, [s₁.heap.objs.size], _, _, _, _, itr_keys (d := d) (es := es) (ep := ep), h1, h2, E₁.trans ⟨_, _, rfl⟩, ⟨_, hg, rfl, by rw [← hz]; rfl⟩, h3, q⟩
end
end Mu
end
noncomputable section
open PySem PySem.W PySem.Calls PyProof.Rows
set_option Elab.async false
set_option linter.unusedVariables false
set_option linter.unusedSectionVars false

namespace Mu
section
variable {prog : Program} {w : World} {A : Around} {E : Value → Shared → Prop} {s : Shared}

/-- the parts of a zip of a str and a list lie apart -/
structure Apart (z TI TO i1 i2 l : Addr) : Prop where
  TIz : TI ≠ z
  TOz : TO ≠ z
  i1z : i1 ≠ z
  i2z : i2 ≠ z
  TITO : TI ≠ TO
  TIi1 : TI ≠ i1
  TIi2 : TI ≠ i2
  TOi1 : TO ≠ i1
  TOi2 : TO ≠ i2
  i12 : i1 ≠ i2
  lz : l ≠ z
  lTI : l ≠ TI
  lTO : l ≠ TO
  l1 : l ≠ i1
  l2 : l ≠ i2

theorem apart_of (n l : Nat) (h : l < n) : Apart (n + 4) (n + 2) (n + 3) n (n + 1) l := by
  constructor <;> (intro q; have q' : (_ : Nat) = (_ : Nat) := q; omega)
theorem isr_at {h h' : Heap} {a : Addr} {ty : String} {x : Str} {t : Tok} {i : Nat} (y : h.IsStrIter a ty x t i) (e : ∀ o, h.get? a = some o → h'.get? a = some o) : h'.IsStrIter a ty x t i := let ⟨o, ho, r⟩ := y; ⟨o, e o ho, r⟩

theorem zipS_item {z TI TO i1 i2 l : Addr} {k c : Nat} {x : Str} {t : Tok} {ys : Array Value} {y a b : Value} {Q : Value → Shared → Prop} (D : Apart z TI TO i1 i2 l)
    (hz : IsZip s.heap z TI TO .none) (hTI : IsPair s.heap TI (.ref i1) (.ref i2)) (hTO : IsPair s.heap TO a b)
    (h1 : s.heap.IsStrIter i1 "str_ascii_iterator" x t k) (h2 : s.heap.IsListIter i2 l k) (hl : s.heap.IsList l ys) (hx : x.cps[k]? = some c) (hy : ys[k]? = some y)
    (hQ : ∀ h' u, IsZip h' z TI TO (rawInt s.heap.objs.size) → IsPair h' TO (.str ⟨#[c]⟩ u) y → h'.IsStrIter i1 "str_ascii_iterator" x t (k + 1) → h'.IsListIter i2 l (k + 1) → IsPair h' s.heap.objs.size (.str ⟨#[c]⟩ u) y →
      (∀ q o, q ≠ z → q ≠ TO → q ≠ i1 → q ≠ i2 → s.heap.get? q = some o → h'.get? q = some o) → Q (.ref s.heap.objs.size) { s with heap := h', toks := s.toks + 1 }) :
    wpAny (model prog w) A (Builtin.«zip.__next__» ⟨[.ref z], []⟩) (fun fin s' => ∃ v, fin = .done (.ret v) ∧ Q v s') E s := by
  show wpAny _ _ (field (.ref z) 2 >>= _) _ _ _
  refine wpAny_bind (wpAny_field hz rfl (x := .bool false) rfl ?_)
  show wpAny _ _ (field (.ref z) 3 >>= _) _ _ _
  refine wpAny_bind (wpAny_field hz rfl (x := .ref TI) rfl ?_)
  refine wpAny_bind (wpAny_seqItems hTI rfl ?_)
  show wpAny _ _ (Builtin.SmallTypes.ownedTupleIsFree (.ref z) >>= _) _ _ _
  refine wpAny_bind ?_
  unfold Builtin.SmallTypes.ownedTupleIsFree
  refine wpAny_bind (wpAny_field hz rfl (x := .none) rfl (wpAny_pure ?_))
  simp only [if_true]
  refine wpAny_bind (wpAny_rule ?_)
  refine wpAny_bind (wpAny_field hz rfl (x := .ref TO) rfl ?_)
  refine wpAny_bind (wpAny_setField_rec hz (by simp) fun h₁ hz₁ hs₁ => ?_)
  replace hz₁ : IsZip h₁ z TI TO .ellipsis := hz₁
  refine wpAny_bind ?_
  simp only [List.zipIdx_cons, List.zipIdx_nil, List.forIn_cons, List.forIn_nil]
  refine wpAny_bind (wpAny_bind (wpAny_onRaise ?_))
  show wpAny _ _ (Builtin.SmallTypes.nextOf (.ref i1) >>= _) _ _ _
  refine wpAny_bind (wpAny_nextOf_ascii_item (h1.extBut hs₁.extBut D.i1z) hx fun h₂ h1₂ hs₂ => wpAny_pure ?_)
  have hTO₂ : IsPair h₂ TO a b := hs₂.extBut _ _ D.TOi1 (hs₁.extBut _ _ D.TOz hTO)
  refine wpAny_bind (wpAny_seqItems hTO₂ rfl ?_)
  refine wpAny_bind (wpAny_updateSeq_pair hTO₂ fun h₃ hTO₃ hs₃ => ?_)
  replace hTO₃ : IsPair h₃ TO (.str ⟨#[c]⟩ s.toks) b := hTO₃
  refine wpAny_bind (wpAny_letGo (wpAny_pure ?_))
  refine wpAny_bind (wpAny_bind (wpAny_onRaise ?_))
  show wpAny _ _ (Builtin.SmallTypes.nextOf (.ref i2) >>= _) _ _ _
  refine wpAny_bind (wpAny_nextOf_list_item (((h2.extBut hs₁.extBut D.i2z).extBut hs₂.extBut D.i12.symm).extBut hs₃.extBut D.TOi2.symm)
    (((hl.extBut hs₁.extBut D.lz).extBut hs₂.extBut D.l1).extBut hs₃.extBut D.lTO) hy fun h₄ h2₄ hs₄ => wpAny_pure ?_)
  have hTO₄ : IsPair h₄ TO (.str ⟨#[c]⟩ s.toks) b := hs₄.extBut _ _ D.TOi2 hTO₃
  refine wpAny_bind (wpAny_seqItems hTO₄ rfl ?_)
  refine wpAny_bind (wpAny_updateSeq_pair hTO₄ fun h₅ hTO₅ hs₅ => ?_)
  replace hTO₅ : IsPair h₅ TO (.str ⟨#[c]⟩ s.toks) y := hTO₅
  refine wpAny_bind (wpAny_letGo (wpAny_pure (wpAny_pure ?_)))
  refine wpAny_bind (wpAny_seqItems hTO₅ rfl ?_)
  refine wpAny_bind (wpAny_newTuple ?_)
  have hsz : h₅.objs.size = s.heap.objs.size := by rw [hs₅.1, hs₄.1, hs₃.1, hs₂.1, hs₁.1]
  have hz₅ : IsZip h₅ z TI TO .ellipsis := hs₅.extBut _ _ D.TOz.symm (hs₄.extBut _ _ D.i2z.symm (hs₃.extBut _ _ D.TOz.symm (hs₂.extBut _ _ D.i1z.symm hz₁)))
  have hk₅ : ∀ q o, q ≠ z → q ≠ TO → q ≠ i1 → q ≠ i2 → s.heap.get? q = some o → h₅.get? q = some o := fun q o c1 c2 c3 c4 e =>
    hs₅.extBut _ _ c2 (hs₄.extBut _ _ c4 (hs₃.extBut _ _ c2 (hs₂.extBut _ _ c3 (hs₁.extBut _ _ c1 e))))
  have h1₅ : h₅.IsStrIter i1 "str_ascii_iterator" x t (k + 1) := ((h1₂.extBut hs₃.extBut D.TOi1.symm).extBut hs₄.extBut D.i12).extBut hs₅.extBut D.TOi1.symm
  have h2₅ : h₅.IsListIter i2 l (k + 1) := h2₄.extBut hs₅.extBut D.TOi2.symm
  have hzlt : z < h₅.objs.size := Heap.lt_size hz₅
  show wpAny _ _ (Builtin.SmallTypes.ownedTupleHandOut (.ref z) (.ref h₅.objs.size) >>= _) _ _ _
  refine wpAny_bind ?_
  unfold Builtin.SmallTypes.ownedTupleHandOut
  have hz₆ : IsZip (h₅.push { cls := .type "tuple", data := .seq #[.str ⟨#[c]⟩ s.toks, y] }) z TI TO .ellipsis := Heap.get?_push_of_some _ hz₅
  refine wpAny_bind (wpAny_setField_rec hz₆ (by simp) fun h₇ hz₇ hs₇ => ?_)
  replace hz₇ : IsZip h₇ z TI TO (rawInt h₅.objs.size) := hz₇
  refine wpAny_setField_rec hz₇ (by simp) fun h₈ hz₈ hs₈ => ?_
  replace hz₈ : IsZip h₈ z TI TO (rawInt h₅.objs.size) := hz₈
  have up : ∀ q o, q ≠ z → h₅.get? q = some o → h₈.get? q = some o := fun q o c1 e => hs₈.extBut _ _ c1 (hs₇.extBut _ _ c1 (Heap.get?_push_of_some _ e))
  have hT₈ : IsPair h₈ h₅.objs.size (.str ⟨#[c]⟩ s.toks) y := hs₈.extBut _ _ (Nat.ne_of_gt hzlt) (hs₇.extBut _ _ (Nat.ne_of_gt hzlt) (Heap.get?_push_size _ rfl))
  rw [hsz] at hz₈ hT₈
  refine wpAny_pure ⟨_, rfl, ?_⟩
  show Q (.ref h₅.objs.size) _
  rw [hsz]
  exact hQ h₈ s.toks hz₈ (up _ _ D.TOz hTO₅) (isr_at h1₅ fun o e => up _ o D.i1z e) (h2₅.at fun o e => up _ o D.i2z e) hT₈ fun q o c1 c2 c3 c4 e => up q o c1 (hk₅ q o c1 c2 c3 c4 e)

theorem zipS_end {z TI TO i1 i2 l : Addr} {k : Nat} {x : Str} {t : Tok} {ys : Array Value} {a b : Value} {Q : Fin → Shared → Prop} (hh : A.handled = none) (D : Apart z TI TO i1 i2 l)
    (hz : IsZip s.heap z TI TO .none) (hTI : IsPair s.heap TI (.ref i1) (.ref i2)) (hTO : IsPair s.heap TO a b)
    (h1 : s.heap.IsStrIter i1 "str_ascii_iterator" x t k) (h2 : s.heap.IsListIter i2 l k) (hl : s.heap.IsList l ys) (hend : x.cps[k]? = none ∨ ys[k]? = none)
    (hE : ∀ h' e tk, (∀ q o, q ≠ z → q ≠ TO → q ≠ i1 → q ≠ i2 → s.heap.get? q = some o → h'.get? q = some o) → (∃ o, h'.get? e = some o ∧ o.cls = .type "StopIteration") → E (.ref e) { s with heap := h', toks := tk }) :
    wpAny (model prog w) A (Builtin.«zip.__next__» ⟨[.ref z], []⟩) Q E s := by
  show wpAny _ _ (field (.ref z) 2 >>= _) _ _ _
  refine wpAny_bind (wpAny_field hz rfl (x := .bool false) rfl ?_)
  show wpAny _ _ (field (.ref z) 3 >>= _) _ _ _
  refine wpAny_bind (wpAny_field hz rfl (x := .ref TI) rfl ?_)
  refine wpAny_bind (wpAny_seqItems hTI rfl ?_)
  show wpAny _ _ (Builtin.SmallTypes.ownedTupleIsFree (.ref z) >>= _) _ _ _
  refine wpAny_bind ?_
  unfold Builtin.SmallTypes.ownedTupleIsFree
  refine wpAny_bind (wpAny_field hz rfl (x := .none) rfl (wpAny_pure ?_))
  simp only [if_true]
  refine wpAny_bind (wpAny_rule ?_)
  refine wpAny_bind (wpAny_field hz rfl (x := .ref TO) rfl ?_)
  refine wpAny_bind (wpAny_setField_rec hz (by simp) fun h₁ hz₁ hs₁ => ?_)
  replace hz₁ : IsZip h₁ z TI TO .ellipsis := hz₁
  refine wpAny_bind ?_
  simp only [List.zipIdx_cons, List.zipIdx_nil, List.forIn_cons, List.forIn_nil]
  refine wpAny_bind (wpAny_bind (wpAny_onRaise ?_))
  show wpAny _ _ (Builtin.SmallTypes.nextOf (.ref i1) >>= _) _ _ _
  cases hx : x.cps[k]? with
  | none =>
    refine wpAny_bind (wpAny_nextOf_ascii_end hh (h1.extBut hs₁.extBut D.i1z) hx fun h₂ e hs₂ he => ?_)
    obtain ⟨oe, hoe, hce⟩ := he
    have hz₂ : IsZip h₂ z TI TO .ellipsis := hs₂ _ _ D.i1z.symm hz₁
    have hez : e ≠ z := fun x => by subst x; rw [hz₂] at hoe; cases hoe; simp at hce
    refine wpAny_setField_rec hz₂ (by simp) fun h₃ _ hs₃ => hE h₃ e _ (fun q o c1 _ c3 _ x => hs₃.extBut _ _ c1 (hs₂ _ _ c3 (hs₁.extBut _ _ c1 x))) ⟨oe, hs₃.extBut _ _ hez hoe, hce⟩
  | some c =>
    have hy : ys[k]? = none := by rcases hend with h | h; rw [hx] at h; cases h; exact h
    refine wpAny_bind (wpAny_nextOf_ascii_item (h1.extBut hs₁.extBut D.i1z) hx fun h₂ h1₂ hs₂ => wpAny_pure ?_)
    have hTO₂ : IsPair h₂ TO a b := hs₂.extBut _ _ D.TOi1 (hs₁.extBut _ _ D.TOz hTO)
    refine wpAny_bind (wpAny_seqItems hTO₂ rfl ?_)
    refine wpAny_bind (wpAny_updateSeq_pair hTO₂ fun h₃ hTO₃ hs₃ => ?_)
    refine wpAny_bind (wpAny_letGo (wpAny_pure ?_))
    refine wpAny_bind (wpAny_bind (wpAny_onRaise ?_))
    show wpAny _ _ (Builtin.SmallTypes.nextOf (.ref i2) >>= _) _ _ _
    refine wpAny_bind (wpAny_nextOf_list_end hh (((h2.extBut hs₁.extBut D.i2z).extBut hs₂.extBut D.i12.symm).extBut hs₃.extBut D.TOi2.symm)
      (((hl.extBut hs₁.extBut D.lz).extBut hs₂.extBut D.l1).extBut hs₃.extBut D.lTO) hy fun h₄ e hs₄ he => ?_)
    obtain ⟨oe, hoe, hce⟩ := he
    have hz₄ : IsZip h₄ z TI TO .ellipsis := hs₄ _ _ D.i2z.symm (hs₃.extBut _ _ D.TOz.symm (hs₂.extBut _ _ D.i1z.symm hz₁))
    have hez : e ≠ z := fun x => by subst x; rw [hz₄] at hoe; cases hoe; simp at hce
    refine wpAny_setField_rec hz₄ (by simp) fun h₅ _ hs₅ => hE h₅ e _ (fun q o c1 c2 c3 c4 x => hs₅.extBut _ _ c1 (hs₄ _ _ c4 (hs₃.extBut _ _ c2 (hs₂.extBut _ _ c3 (hs₁.extBut _ _ c1 x))))) ⟨oe, hs₅.extBut _ _ hez hoe, hce⟩

abbrev zs1 (h : Heap) (x : Str) (t : Tok) : Heap := h.push { cls := .type "str_ascii_iterator", data := .fields #[.str x t, .int 0 0] }
abbrev zs2 (h : Heap) (x : Str) (t : Tok) (l : Addr) : Heap := (zs1 h x t).push { cls := .type "list_iterator", data := .fields #[.ref l, .int 0 0] }
abbrev zs3 (h : Heap) (x : Str) (t : Tok) (l : Addr) : Heap := (zs2 h x t l).push { cls := .type "tuple", data := .seq #[.ref h.objs.size, .ref (zs1 h x t).objs.size] }
abbrev zs4 (h : Heap) (x : Str) (t : Tok) (l : Addr) : Heap := (zs3 h x t l).push { cls := .type "tuple", data := .seq #[.none, .none] }
abbrev zs5 (h : Heap) (x : Str) (t : Tok) (l : Addr) : Heap := (zs4 h x t l).push { cls := .type "zip", data := .fields #[.none, .bool false, .bool false, .ref (zs2 h x t l).objs.size, .ref (zs3 h x t l).objs.size] }

set_option maxHeartbeats 4000000 in
theorem meets_zipS (x : Str) (t : Tok) (l : Addr) (ys : Array Value) (ha : x.cps.all (· < 128) = true) :
    Meets (Builtin.«zip.__new__» ⟨[.type "zip", .str x t, .ref l], []⟩) (fun _ R s => s.heap.IsList l ys ∧ R (.ok (.ret (.ref (zs4 s.heap x t l).objs.size))) { s with heap := zs5 s.heap x t l }) :=
  .of_wp fun prog w A R s h => by
    obtain ⟨hp, g, d, tk, os⟩ := s; obtain ⟨hl, h⟩ := h
    have hsub := sub_zip
    have hL : Heap.IsList (Shared.heap ⟨hp.push { cls := .type "str_ascii_iterator", data := .fields #[.str x t, .int 0 0] }, g, d, tk, os⟩) l ys := Heap.IsList.push hl _
    wp_walk using wpAny_pyIter_ascii ha, wpAny_pyIter_list hL
    exact ⟨_, rfl, h⟩

theorem call_zipS {x : Str} {t : Tok} {l : Addr} {ys : Array Value} {Q : Value → Shared → Prop} (ha : x.cps.all (· < 128) = true) (hl : s.heap.IsList l ys)
    (h : Q (.ref (s.heap.objs.size + 4)) { s with heap := zs5 s.heap x t l }) :
    wpAny (model prog w) A (call (.type "zip") [.str x t, .ref l]) Q E s := by
  refine callType_new F.called_zip (by decide) (F.typeCall_zip_2 _ _) (F.newCall_zip_2 _ _) (fun obj => F.args_object_init_3 obj _ _) F.entry_zip_new
    (meets_zipS x t l ys ha) ⟨hl, ?_⟩
  have z1 : (zs1 s.heap x t).objs.size = s.heap.objs.size + 1 := Heap.size_push ..
  have z2 : (zs2 s.heap x t l).objs.size = s.heap.objs.size + 2 := by rw [Heap.size_push, z1]
  have z3 : (zs3 s.heap x t l).objs.size = s.heap.objs.size + 3 := by rw [Heap.size_push, z2]
  have z4 : (zs4 s.heap x t l).objs.size = s.heap.objs.size + 4 := by rw [Heap.size_push, z3]
  have g5 : (zs5 s.heap x t l).get? (zs4 s.heap x t l).objs.size = some _ := Heap.get?_push_size _ rfl
  show _ ∧ _
  rw [z4] at g5 ⊢
  exact ⟨⟨_, g5, rfl⟩, h⟩
end

section
variable {c : Cx} {N : Nat} {ow : List Addr} {env : Env} {st : St}
theorem zip_ne : Value.type "zip" ≠ Value.type "tuple" := by decide
theorem itr_zip {elts : List Expr} {x1 : Nat} {tpos : Pos} {z TI TO i1 i2 l : Addr} {x : Str} {t : Tok} {items : List AV} (D : Apart z TI TO i1 i2 l) :
    Itr c N (.Tuple elts x1 tpos) (.ref z) [z, TI, TO, i1, i2] (min x.cps.size items.length) (fun i => .tup [.str (signAt x i), items.getD i .none]) (fun hp => hp l = some (.list items))
      (fun X i h => And5 (IsZip h z TI TO .none) (IsPair h TI (.ref i1) (.ref i2)) (∃ a b, IsPair h TO a b) (h.IsStrIter i1 "str_ascii_iterator" x t i) (h.IsListIter i2 l i)) where
  keep := fun X i h h' ⟨j1, j2, ⟨a, b, j3⟩, j4, j5⟩ k T => ⟨k z (by simp) _ j1, k TI (by simp) _ j2, ⟨a, b, k TO (by simp) _ j3⟩, isr_at j4 fun o e => k i1 (by simp) o e, j5.at fun o e => k i2 (by simp) o e⟩
  there := fun X i h ⟨j1, j2, ⟨a, b, j3⟩, ⟨o4, e4, _, d4⟩, ⟨o5, e5, _, d5⟩⟩ q hq => by
    simp only [List.mem_cons, List.not_mem_nil, or_false] at hq
    rcases hq with rfl | rfl | rfl | rfl | rfl
    · exact ⟨_, j1, fun v q => by cases q⟩
    · exact ⟨_, j2, fun v q => by cases q⟩
    · exact ⟨_, j3, fun v q => by cases q⟩
    · exact ⟨_, e4, fun v q => by rw [d4] at q; cases q⟩
    · exact ⟨_, e5, fun v q => by rw [d5] at q; cases q⟩
  next := fun i A P hp s hi R H hx hok ⟨j1, j2, ⟨a, b, j3⟩, j4, j5⟩ => by
    have hi1 : i < x.cps.size := by omega
    have hi2 : i < items.length := by omega
    obtain ⟨vs, m, hl, V, _⟩ := (H.objs l _ hok).2
    have hg : items[i]? = some (items.getD i .none) := by rw [List.getD_eq_getElem?_getD, List.getElem?_eq_getElem hi2]; rfl
    obtain ⟨v, e, Vv⟩ := V.get hg
    have hT : s.TypeIs (.ref z) "zip" := ⟨_, j1, rfl⟩
    unfold pyNext
    refine wpAny_bind (wpAny_attempt (wpAny_callSpecial?_slot (name := Str.ofString "__next__") hT F.slot_zip_next (wpAny_call_entry F.slot_zip_next hT F.entry_zip_next
      (zipS_item D j1 j2 j3 j4 j5 hl.isList (c := x.cps.getD i 0) (by simp [hi1]) (y := v) (by simpa using e) fun h' u a1 a2 a3 a4 a5 hk => wpAny_pure ⟨_, rfl, ?_⟩) (F.args_zip_next_1 _))))
    refine wpAny_letOwnedTupleGo_zip a1 fun h2 hz2 hs2 => ?_
    have nz : s.heap.objs.size ≠ z := Nat.ne_of_gt (Heap.lt_size j1)
    have K : KeepBut [z, TI, TO, i1, i2] s.heap h2 := fun q o hq e => by
      simp only [List.mem_cons, List.not_mem_nil, or_false, not_or] at hq
      exact hs2.extBut _ _ hq.1 (hk q o hq.1 hq.2.2.1 hq.2.2.2.1 hq.2.2.2.2 e)
    have T := tk_but (X := P.x) hx K
    refine ⟨.tup (hs2.extBut _ _ nz a5) H.notHid (.cons (.str _ _) (.cons (Vv.mono T) .nil)), ⟨hz2, hs2.extBut _ _ D.TIz (hk TI _ D.TIz D.TITO D.TIi1 D.TIi2 j2), ⟨_, _, hs2.extBut _ _ D.TOz a2⟩, isr_at a3 fun o e => hs2.extBut _ _ D.i1z e, a4.at fun o e => hs2.extBut _ _ D.i2z e⟩, ⟨_, _, rfl⟩, K⟩
  done := fun A P hp s R H hok ⟨j1, j2, ⟨a, b, j3⟩, j4, j5⟩ => by
    obtain ⟨vs, m, hl, V, _⟩ := (H.objs l _ hok).2
    have hT : s.TypeIs (.ref z) "zip" := ⟨_, j1, rfl⟩
    have hend : x.cps[min x.cps.size items.length]? = none ∨ (List.toArray vs)[min x.cps.size items.length]? = none := by
      rcases Nat.le_total x.cps.size items.length with h | h
      · exact .inl (by rw [Nat.min_eq_left h]; exact Array.getElem?_eq_none (Nat.le_refl _))
      · exact .inr (by rw [Nat.min_eq_right h, List.getElem?_toArray, List.getElem?_eq_none]; rw [V.length]; exact Nat.le_refl _)
    unfold pyNext
    refine wpAny_bind (wpAny_attempt (wpAny_callSpecial?_slot (name := Str.ofString "__next__") hT F.slot_zip_next (wpAny_call_entry F.slot_zip_next hT F.entry_zip_next
      (zipS_end R.1 D j1 j2 j3 j4 j5 hl.isList hend fun h' e tk hk he => ?_) (F.args_zip_next_1 _))))
    obtain ⟨o, ho, hc⟩ := he
    refine wpAny_bind (wpAny_isInstance (T := "StopIteration") (b := true) ⟨o, ho, hc⟩ isSubtype_stop ?_)
    exact wpAny_pure ⟨rfl, ⟨_, _, rfl⟩, fun q o hq e => by
      simp only [List.mem_cons, List.not_mem_nil, or_false, not_or] at hq
      exact hk q o hq.1 hq.2.2.1 hq.2.2.2.1 hq.2.2.2.2 e⟩
  self := fun X i A s Q E J q => wpAny_pyIter_zip J.1 q

theorem Src_zip {elts : List Expr} {x1 : Nat} {tpos p pos : Pos} {e₁ e₂ : Expr} {K : Nat → (Nat → AV) → (AH → Prop) → St → Prop} (ok : EnvOk env) (hl : env.kindOf "zip" = some .globalImplicit) (hg : nsIn c.K mainGlobals "zip" = some none)
    (h : Ev c N ow env (eval e₁ env) (fun a st₁ => Ev c N ow env (eval e₂ env) (fun b st₂ => ∃ x l items, And5 (a = .str x) (ascii x = true) (b = .ref l) (st₂.hp l = some (.list items)) (K (min x.cps.size items.length) (fun i => .tup [.str (signAt x i), items.getD i .none]) (fun hp => hp l = some (.list items)) st₂)) st₁) st)
    (he₁ : starEach [e₁, e₂] env = (false, eval e₁ env) :: starEach [e₂] env := by rfl) (he₂ : starEach [e₂] env = (false, eval e₂ env) :: starEach [] env := by rfl) (hplain : (backTo pos (starEach [e₂] env)).any (·.1) = false := by rfl) :
    Src c N ow env (.Tuple elts x1 tpos) (eval (.Call (.Name "zip" p) [e₁, e₂] [] pos) env) K st := fun A P s R H F =>
  wpAny_Call_Name_kw (wp_builtin (v := .type "zip") ok hl hg rfl H.keep (callWith_any (c := c) (PP := fun _ => True) (fun h _ => plainF_keeps rfl h) (wpAny_items_cons (h.then R H F fun v s₁ a st₁ H₁ F₁ V₁ E₁ h₁ _ _ =>
    wpAny_items_cons (h₁.then R H₁ F₁ fun u s₂ b st₂ H₂ F₂ V₂ E₂ ⟨x, l, items, e1, hx, e2, ho, q⟩ T₂ _ => wpAny_items_nil ⟨trivial, by
    subst e1; subst e2
    apply V₁.rS; intro t
    apply V₂.rf
    obtain ⟨vs, m, hls, V, _⟩ := (H₂.objs l _ ho).2
    refine call_zipS hx hls.isList ?_
    have z1 : (zs1 s₂.heap x t).objs.size = s₂.heap.objs.size + 1 := Heap.size_push ..
    have z2 : (zs2 s₂.heap x t l).objs.size = s₂.heap.objs.size + 2 := by rw [Heap.size_push, z1]
    have z3 : (zs3 s₂.heap x t l).objs.size = s₂.heap.objs.size + 3 := by rw [Heap.size_push, z2]
    have z4 : (zs4 s₂.heap x t l).objs.size = s₂.heap.objs.size + 4 := by rw [Heap.size_push, z3]
    have g5 : (zs5 s₂.heap x t l).get? (zs4 s₂.heap x t l).objs.size = some _ := Heap.get?_push_size _ rfl
    have g4 : (zs5 s₂.heap x t l).get? (zs3 s₂.heap x t l).objs.size = some _ := Heap.get?_push_of_some _ (Heap.get?_push_size _ rfl)
    have g3 : (zs5 s₂.heap x t l).get? (zs2 s₂.heap x t l).objs.size = some _ := Heap.get?_push_of_some _ (Heap.get?_push_of_some _ (Heap.get?_push_size _ rfl))
    have g2 : (zs5 s₂.heap x t l).get? (zs1 s₂.heap x t).objs.size = some _ := Heap.get?_push_of_some _ (Heap.get?_push_of_some _ (Heap.get?_push_of_some _ (Heap.get?_push_size _ rfl)))
    have g1 : (zs5 s₂.heap x t l).get? s₂.heap.objs.size = some _ := Heap.get?_push_of_some _ (Heap.get?_push_of_some _ (Heap.get?_push_of_some _ (Heap.get?_push_of_some _ (Heap.get?_push_size _ rfl))))
    rw [z2, z3, z4] at g5
    rw [z1, z2] at g3
    rw [z3] at g4
    rw [z1] at g2
    have k5 : ∀ q o, s₂.heap.get? q = some o → (zs5 s₂.heap x t l).get? q = some o := fun q o e => Heap.get?_push_of_some _ (Heap.get?_push_of_some _ (Heap.get?_push_of_some _ (Heap.get?_push_of_some _ (Heap.get?_push_of_some _ e))))
    have gl : l < s₂.heap.objs.size := Heap.lt_size hls
    have hz5 : IsZip (zs5 s₂.heap x t l) (s₂.heap.objs.size + 4) (s₂.heap.objs.size + 2) (s₂.heap.objs.size + 3) .none := g5
    refine wpAny_pyIter_zip hz5 ?_
    have H5 : HR c P st₂.hp (zs5 s₂.heap x t l) := H₂.ext k5
    have F5 : FR P ow env st₂ (zs5 s₂.heap x t l) := F₂.keeps k5
    have above : ∀ q, s₂.heap.objs.size ≤ q → P.p q = none ∧ st₂.hp q = none ∧ q ≠ env.locals ∧ q ∉ ow ∧ ¬ P.x q := fun q hq => by
      refine ⟨?_, ?_, Nat.ne_of_gt (Nat.lt_of_lt_of_le F₂.lt hq), fun hm => ?_, fun hm => ?_⟩
      · cases e : P.p q with
        | none => rfl
        | some o => exact absurd (Heap.lt_size (H₂.prot _ _ e)) (Nat.not_lt.mpr hq)
      · cases e : st₂.hp q with
        | none => rfl
        | some o => exact absurd (H₂.objs _ _ e).2.lt (Nat.not_lt.mpr hq)
      · obtain ⟨_, _, v, I⟩ := F₂.ows _ hm; exact absurd I.lt (Nat.not_lt.mpr hq)
      · obtain ⟨o, e⟩ := H₂.hid _ hm; exact absurd (Heap.lt_size e) (Nat.not_lt.mpr hq)
    have mem : ∀ q ∈ [s₂.heap.objs.size + 4, s₂.heap.objs.size + 2, s₂.heap.objs.size + 3, s₂.heap.objs.size, s₂.heap.objs.size + 1], s₂.heap.objs.size ≤ q ∧ ∃ o, (zs5 s₂.heap x t l).get? q = some o := fun q hq => by
      simp only [List.mem_cons, List.not_mem_nil, or_false] at hq
      rcases hq with rfl | rfl | rfl | rfl | rfl
      · exact ⟨by simp, _, g5⟩
      · exact ⟨by simp, _, g3⟩
      · exact ⟨by simp, _, g4⟩
      · exact ⟨by simp, _, g1⟩
      · exact ⟨by simp, _, g2⟩
    -- the hidden ones are none of the known tuples
    have T5 : TK P.x s₂.heap (P.hide [s₂.heap.objs.size + 4, s₂.heap.objs.size + 2, s₂.heap.objs.size + 3, s₂.heap.objs.size, s₂.heap.objs.size + 1]).x (zs5 s₂.heap x t l) := fun a vs n hxx e =>
      ⟨fun q => q.elim hxx fun q => absurd (Heap.lt_size e) (Nat.not_lt.mpr (mem a q).1), k5 _ _ e⟩
    have H6 : HR c (P.hide [s₂.heap.objs.size + 4, s₂.heap.objs.size + 2, s₂.heap.objs.size + 3, s₂.heap.objs.size, s₂.heap.objs.size + 1]) st₂.hp (zs5 s₂.heap x t l) :=
      ⟨H5.prot, H5.base, fun a o e => ⟨(H5.objs a o e).1, (H₂.objs a o e).2.mono T5 fun ob q => k5 _ _ q⟩, fun a hm => hm.elim (H5.hid a) fun hm => (mem a hm).2, H5.hi⟩
    have F6 : FR (P.hide [s₂.heap.objs.size + 4, s₂.heap.objs.size + 2, s₂.heap.objs.size + 3, s₂.heap.objs.size, s₂.heap.objs.size + 1]) ow env st₂ (zs5 s₂.heap x t l) := by
      obtain ⟨m, hn, hm⟩ := F₂.ns
      exact ⟨⟨m, hn.keeps k5, fun x av e l => let ⟨v, e1, V⟩ := hm x av e l; ⟨v, e1, V.mono T5⟩⟩, fun x av e l => let ⟨cx, v, e1, I, V⟩ := F₂.cl x av e l; ⟨cx, v, e1, I.keeps k5, V.mono T5⟩, F5.own, F5.ows, F5.cls⟩
    exact ⟨st₂, _, _, _, _, _, itr_zip (l := l) (items := items) (x := x) (t := t) (z := s₂.heap.objs.size + 4) (TI := s₂.heap.objs.size + 2) (TO := s₂.heap.objs.size + 3) (i1 := s₂.heap.objs.size) (i2 := s₂.heap.objs.size + 1)
      (apart_of _ _ gl), H6, F6, E₁.trans (E₂.trans ⟨_, _, rfl⟩),
      ⟨g5, g3, ⟨_, _, g4⟩, ⟨_, g1, rfl, rfl⟩, ⟨_, g2, rfl, rfl⟩⟩, fun q hq => above q (mem q hq).1, q⟩⟩) he₂) he₁) he₁ hplain))
end
end Mu
end
noncomputable section
open PySem PySem.W PySem.Calls PyProof.Rows
set_option Elab.async false
set_option linter.unusedVariables false
set_option linter.unusedSectionVars false

namespace Mu
-- sorted
def kasRun {α : Type} (cmp : Nat → Nat → Bool) : KasT α → α
  | .ret a => a
  | .ask i j k => kasRun cmp (k (cmp i j))
def ltKs : List Str → List Str → Bool
  | [], [] => false
  | [], _ :: _ => true
  | _ :: _, [] => false
  | a :: l, b :: m => if a = b then ltKs l m else decide (a.cps.toList < b.cps.toList)
def sortKs (ks : List (List Str)) : List (List Str) :=
  if ks.length < 2 then ks else (kasRun (fun i j => ltKs (ks.getD i []) (ks.getD j [])) (kas_sort ks.length)).toList.map fun i => ks.getD i []

def kasIn (n : Nat) : KasT (Array Nat) → Bool
  | .ret a => decide (a.toList.length ≤ n) && a.toList.all (fun i => decide (i < n))
  | .ask i j k => decide (i < n) && decide (j < n) && kasIn n (k true) && kasIn n (k false)
theorem kasWp_run {n : Nat} {cmp : Nat → Nat → (Bool → Shared → Prop) → Shared → Prop} {f : Nat → Nat → Bool} {Q : Array Nat → Shared → Prop} {s : Shared} (h : ∀ i j (C : Bool → Shared → Prop), i < n → j < n → C (f i j) s → cmp i j C s) :
    ∀ (t : KasT (Array Nat)), kasIn n t = true → ((kasRun f t).toList.length ≤ n → (∀ i ∈ (kasRun f t).toList, i < n) → Q (kasRun f t) s) → t.kasWp cmp Q s
  | .ret a, hk, q => by
    simp only [kasIn, Bool.and_eq_true, decide_eq_true_eq] at hk
    exact q hk.1 fun i hi => of_decide_eq_true (List.all_eq_true.mp hk.2 i hi)
  | .ask i j k, hk, q => by
    simp only [kasIn, Bool.and_eq_true, decide_eq_true_eq] at hk
    refine h i j _ hk.1.1.1 hk.1.1.2 (kasWp_run h (k (f i j)) ?_ q)
    cases f i j with
    | true => exact hk.1.2
    | false => exact hk.2
theorem kasIn2 : kasIn 2 (kas_sort 2) = true := by decide
theorem kasIn3 : kasIn 3 (kas_sort 3) = true := by decide

section
variable {prog : Program} {w : World} {A : Around} {E : Value → Shared → Prop} {s : Shared}
theorem list_sort_small {a : Addr} {vs : List Value} {n : Nat} {P : PySem.Fin → Shared → Prop} (ho : s.heap.get? a = some (seqObj "list" vs.toArray n)) (h2 : vs.length < 2)
    (h : P (.done (.ret .none)) { s with heap := sortedHeap s.heap a vs vs.toArray }) : wpAny (model prog w) A (Builtin.«list.sort» ⟨[.ref a], []⟩) P E s := by
  rw [list_sort_plain]
  have ha : a < s.heap.objs.size := Heap.lt_size ho
  refine wpAny_bind (listItems_at ho rfl ?_)
  refine wpAny_bind (listUpdate_at ho rfl ?_ (by rw [List.size_toArray, sizeLine_eq]; omega) (Nat.zero_le _))
  obtain ⟨e1, ho1⟩ : ∃ e1, (s.heap.update a (Obj.mapSeq fun _ => #[])).get? a = some (seqObj "list" #[] e1) := ⟨_, get?_update_seq ho (fun _ => #[])⟩
  refine wpAny_bind (seqEpoch_at ho1 rfl ?_)
  refine wpAny_bind (wpAny_newTuple ?_ (by show vs.length ≤ _; rw [sizeLine_eq]; omega))
  refine wpAny_bind (wpAny_newList ?_ (Nat.zero_le _))
  refine wpAny_holding ?_
  have ho6 : (((s.heap.update a (Obj.mapSeq fun _ => #[])).push (seqObj "tuple" vs.toArray 0)).push (seqObj "list" #[] 0)).get? a = some (seqObj "list" #[] e1) := by
    rw [Heap.get?_push_ne _ _ _ (by rw [size_push', Heap.size_update]; exact Nat.ne_of_lt (Nat.lt_succ_of_lt ha)), Heap.get?_push_ne _ _ _ (by rw [Heap.size_update]; exact Nat.ne_of_lt ha)]
    exact ho1
  show wpAny (model prog w) A _ P E { s with heap := ((s.heap.update a (Obj.mapSeq fun _ => #[])).push (seqObj "tuple" vs.toArray 0)).push (seqObj "list" #[] 0) }
  dsimp only
  have h2' : vs.toArray.size < 2 := by rw [List.size_toArray]; exact h2
  rw [if_pos h2', if_pos h2']
  refine wpAny_bind (wpAny_pure ?_)
  rw [StateT.run_pure]
  refine wpAny_bind (wpAny_pure ?_)
  dsimp only
  refine wpAny_bind (seqEpoch_at ho6 rfl ?_)
  have e : (arrOf (SortSt.mk' general' (vs.toArray.zip vs.toArray) #[] 7 none)).map (·.2) = vs.toArray := by
    show (vs.toArray.zip vs.toArray).map (·.2) = vs.toArray
    apply Array.toList_inj.mp
    simp [List.map_snd_zip]
  rw [e]
  refine wpAny_bind (listUpdate_at ho6 rfl ?_ (Nat.zero_le _) (by rw [List.size_toArray, sizeLine_eq]; omega))
  simp only [bne_self_eq_false, Bool.false_eq_true, if_false]
  exact wpAny_pure h
theorem sorted_small {l : Addr} {vs : List Value} {Q : Value → Shared → Prop} (hl : s.heap.IsList l vs.toArray) (h2 : vs.length < 2)
    (h : Q (.ref (s.heap.objs.size + 1)) { s with heap := sortedAll s.heap vs vs.toArray }) : wpAny (model prog w) A (call (.builtin "sorted") [.ref l]) Q E s := by
  refine Calls.call_function_entry kind_sorted plain_sorted entry_sorted (args_sorted1 _) ?_
  unfold Builtin.«sorted»
  refine wpAny_bind (m := checkCount "sorted" 1 1 _) (wpAny_pure ?_)
  refine wpAny_bind (collect_list hl ?_ (by rw [sizeLine_eq]; omega))
  refine wpAny_bind (wpAny_newList ?_ (by rw [sizeLine_eq]; omega))
  have hsz : ((s.heap.push (seqObj "list" #[] 0)).update s.heap.objs.size (Obj.mapSeq (· ++ vs.toArray))).objs.size = s.heap.objs.size + 1 := by
    rw [Heap.size_update, size_push']
  have hoL : (((s.heap.push (seqObj "list" #[] 0)).update s.heap.objs.size (Obj.mapSeq (· ++ vs.toArray))).push (seqObj "list" vs.toArray 0)).get? (s.heap.objs.size + 1) = some (seqObj "list" vs.toArray 0) := by
    rw [← hsz]; exact Heap.get?_push_size _ rfl
  show wpAny _ _ _ _ _ { s with heap := ((s.heap.push (seqObj "list" #[] 0)).update s.heap.objs.size (Obj.mapSeq (· ++ vs.toArray))).push (seqObj "list" vs.toArray 0) }
  rw [hsz]
  refine wpAny_bind (wpAny_holding (wpAny_call_entry slot_list_sort ⟨_, hoL, rfl⟩ entry_list_sort (list_sort_small hoL h2 ⟨_, rfl, ?_⟩) (args_list_sort _)))
  exact wpAny_pure ⟨_, rfl, h⟩

/-- two tuples of strs in order -/
theorem lexS {X : Hid} {h : Heap} : ∀ {as bs : List Str} {xs ys : List Value} {b : Bool} {i : Nat} {Q : Bool → Shared → Prop}, VRs X h xs (as.map .str) → VRs X h ys (bs.map .str) → Q (ltKs as bs) s → KatLex prog w A b (decide (xs.length < ys.length)) Q (xs.zip ys) i s := by
  intro as
  induction as with
  | nil =>
    intro bs xs ys b i Q hx hy q
    cases hx
    cases bs with
    | nil => cases hy; exact kat_nil q
    | cons c bs => cases hy; exact kat_nil (by simpa [ltKs] using q)
  | cons a as ih =>
    intro bs xs ys b i Q hx hy q
    cases hx with
    | cons hv r =>
    cases bs with
    | nil => cases hy; exact kat_nil (by simpa [ltKs] using q)
    | cons c bs =>
    cases hy with
    | cons hw r' =>
    cases hv with
    | str _ t =>
    cases hw with
    | str _ u =>
    rw [List.zip_cons_cons]
    refine kat_cons (wpAny_eqBool_str ?_)
    unfold ltKs at q
    by_cases e : a = c
    · rw [decide_eq_true e]
      rw [if_pos e] at q
      have := ih (b := b) (i := i + 1) r r' q
      refine kat_yes ?_
      simpa using this
    · rw [decide_eq_false e]
      rw [if_neg e] at q
      refine kat_no ?_
      cases (b && i == 0) with
      | true => exact oneLt_str q
      | false => exact kat_one _ _ (PyProof.Rows.lt_str q)
end

section
variable {c : Cx} {N : Nat} {ow : List Addr} {env : Env} {st : St}
theorem VRs.refs {X : Hid} {h : Heap} {vs : List Value} {ks : List (List Str)} (V : VRs X h vs (ks.map aS)) (i : Nat) (hi : i < ks.length) : ∃ a n xs, vs.getD i Value.none = .ref a ∧ IsT h a (List.toArray xs) n ∧ VRs X h xs ((ks.getD i []).map .str) := by
  obtain ⟨v, e, W⟩ := V.get (k := i) (d := aS (ks.getD i [])) (by simp [hi])
  have e2 : vs.getD i Value.none = v := by rw [List.getD_eq_getElem?_getD, e]; rfl
  rw [e2]
  cases W with
  | @tup a xs n _ hT hx hV => exact ⟨a, n, xs, rfl, hT, hV⟩
theorem katTups_of {X : Hid} {h : Heap} : ∀ {vs : List Value} {ks : List (List Str)}, VRs X h vs (ks.map aS) → (∀ k ∈ ks, k ≠ []) → ∃ fs, KatTups h vs fs ∧ fs.length = ks.length ∧ ∀ v ∈ fs, ∃ x t, v = .str x t
  | _, [], .nil, _ => ⟨[], .nil, rfl, fun v hv => by cases hv⟩
  | _, k :: ks, .cons V W, hk => by
    obtain ⟨fs, h1, h2, h3⟩ := katTups_of W fun k hm => hk k (.tail _ hm)
    obtain ⟨x, r, e⟩ : ∃ x r, k = x :: r := by cases k with
      | nil => exact absurd rfl (hk _ (.head _))
      | cons x r => exact ⟨x, r, rfl⟩
    subst e
    apply V.rT; intro a xs n hT hx hV
    cases hV with
    | cons hv hr =>
    cases hv with
    | str _ t => exact ⟨.str x t :: fs, KatTups.cons hT rfl rfl rfl h1, by rw [List.length_cons, List.length_cons, h2], fun v hm => by
        rcases List.mem_cons.mp hm with rfl | hm
        · exact ⟨_, _, rfl⟩
        · exact h3 v hm⟩
theorem vrs_pick {X : Hid} {h : Heap} {vs : List Value} {ks : List (List Str)} (V : VRs X h vs (ks.map aS)) : ∀ (p : List Nat), (∀ i ∈ p, i < ks.length) → VRs X h (p.map fun i => vs.getD i Value.none) ((p.map fun i => ks.getD i []).map aS)
  | [], _ => .nil
  | i :: p, hp => by
    obtain ⟨a, n, xs, e, hT, hV⟩ := V.refs i (hp i (.head _))
    have W : VR X h (vs.getD i Value.none) (aS (ks.getD i [])) := by
      obtain ⟨v, e1, W⟩ := V.get (k := i) (d := aS (ks.getD i [])) (by simp [hp i (.head _)])
      have e2 : vs.getD i Value.none = v := by rw [List.getD_eq_getElem?_getD, e1]; rfl
      rw [e2]; exact W
    exact .cons W (vrs_pick V p fun j hj => hp j (.tail _ hj))

/-- all objects but the frame's namespace are kept, and one is new -/
theorem backNew {P : Pt} {h h' : Heap} {m : Str → Option Value} {D : Addr} {o : Obj} {ao : AO} (H : HR c P st.hp h) (F : FR P ow env st h) (hn : h.Ns env.locals m) (hm : ∀ x av, st.loc x = some av → env.kindOf x = some .local → ∃ v, m x = some v ∧ VR P.x h v av)
    (F' : Fr {} env.locals h' m) (N' : News {} env.locals h' ((D, o) :: allNews h env.locals)) (hD : ∀ b o, b ≠ env.locals → h.get? b = some o → b < D) (r : TK P.x h P.x h' → h'.get? D = some o → OR c P.x h' D ao) : HR c P (upd st.hp D ao) h' ∧ FR P ow env (st.put D ao) h' ∧ st.hp D = none := by
  obtain ⟨H', F'', T⟩ := back0 H F hn hm F' fun p hp => N' p (List.mem_cons_of_mem _ hp)
  have R := r T (N' _ List.mem_cons_self).1
  have p3 : D ≠ env.locals := (N' _ List.mem_cons_self).2.1
  have nope : ∀ o, h.get? D ≠ some o := fun o e => Nat.lt_irrefl _ (hD D o p3 e)
  have p1 : P.p D = none := by
    cases q : P.p D with
    | none => rfl
    | some o => exact absurd (H.prot _ _ q) (nope o)
  have p2 : st.hp D = none := by
    cases q : st.hp D with
    | none => rfl
    | some o => obtain ⟨ob, e, _⟩ := (H.objs _ _ q).2.there; exact absurd e (nope ob)
  have p4 : D ∉ ow := fun q => by obtain ⟨_, _, v, ⟨o, e, _⟩⟩ := F.ows _ q; exact nope o e
  have p5 : mainGlobals < D := by
    obtain ⟨o, _, _, eg, _⟩ := c.T.g
    exact hD _ _ (fun q => by have := H.base _ _ eg; rw [q, F.own.1] at this; cases this) (H.keep _ _ eg)
  exact ⟨H'.know p1 p5 R, F''.put p3 p4, p2⟩

theorem Op_sortedS {x : Addr} {ks : List (List Str)} {k : AV → St → Prop} (hx : st.hp x = some (.list (ks.map aS))) (h3 : ks.length ≤ 3) (hne : ∀ k ∈ ks, k ≠ [])
    (h : ∀ D, st.hp D = none → k (.ref D) (st.put D (.list ((sortKs ks).map aS)))) : OpL c N ow env (fun vs => call (.builtin "sorted") vs) [.ref x] k st := fun A P s vs' R H F V => by
  apply V.r1; intro _ V
  apply V.rf
  obtain ⟨vs, n, hl, hV, _⟩ := (H.objs x _ hx).2
  have hlen : vs.length = ks.length := by rw [hV.length, List.length_map]
  by_cases h2 : ks.length < 2
  · refine sorted_small hl.isList (by omega) ?_
    have e : sortKs ks = ks := if_pos h2
    rw [e] at h
    obtain ⟨e1, he1⟩ := sortedAll_at s.heap vs vs.toArray
    have kp : ∀ b o, s.heap.get? b = some o → (sortedAll s.heap vs vs.toArray).get? b = some o := fun b o q => sortedAll_old q
    obtain ⟨mm, hn, hm, F₀⟩ := F0 F
    have F₁ : Fr {} env.locals (sortedAll s.heap vs vs.toArray) mm := Fr.kept F₀ kp
    have N₁ := News.kept_cons F₀ (news_all (h := s.heap) (L := env.locals)) kp (Nat.le_succ _) he1
    obtain ⟨H', F', p2⟩ := backNew (ao := .list (ks.map aS)) H F hn hm F₁ N₁ (fun b o _ e => Nat.lt_succ_of_lt (Heap.lt_size e)) fun T e => ⟨vs, e1, e, hV.mono T, by rw [List.length_map]; omega⟩
    exact ⟨.ref _, st.put _ _, H', F', .ref _, ⟨_, _, rfl⟩, h _ p2⟩
  · have h2' : 2 ≤ ks.length := by omega
    have hin : kasIn ks.length (kas_sort ks.length) = true := by
      have : ks.length = 2 ∨ ks.length = 3 := by omega
      rcases this with e | e <;> rw [e]
      · exact kasIn2
      · exact kasIn3
    obtain ⟨mm, hn, hm, F₀⟩ := F0 F
    refine kat_sorted F₀ news_all hl.isList (by omega) (by omega) fun D e1 h' F' N' hD => ?_
    obtain ⟨H1, F1, T1⟩ := back0 H F hn hm F' fun p hp => N' p (List.mem_cons_of_mem _ hp)
    have V1 := hV.mono T1
    obtain ⟨fs, t1, t2, t3⟩ := katTups_of V1 hne
    refine kat_kind t1 (by omega) (T := .type "str") (fun v hv => by obtain ⟨x, t, rfl⟩ := t3 v hv; exact Looks.of_pure rfl) (by rfl) ?_
    rw [hlen]
    refine kasWp_run (n := ks.length) (f := fun i j => ltKs (ks.getD i []) (ks.getD j [])) (fun i j C hi hj q => ?_) _ hin fun hle hok => ?_
    · unfold kas_ask
      obtain ⟨a, n1, xs, e3, e4, e5⟩ := V1.refs i hi
      obtain ⟨b, n2, ys, e6, e7, e8⟩ := V1.refs j hj
      rw [e3, e6]
      refine kat_lt e4 rfl e7 rfl ?_
      have := lexS (prog := c.prog) (w := c.w) (A := A.in1.in1) (b := (Value.type "str" != Value.type "tuple")) (i := 0) e5 e8 q
      simpa using this
    · refine KasFin.intro (news := (D, seqObj "list" #[] e1) :: allNews s.heap env.locals) (g := fun o => (D, o) :: allNews s.heap env.locals) F' N' (UpdF.head fun p hp => Nat.ne_of_lt (hD p hp)) fun h'' c' F'' N'' => ?_
      obtain ⟨H', F3, p2⟩ := backNew (ao := .list ((sortKs ks).map aS)) H F hn hm F'' N'' (fun b o hb e => hD (b, o) (mem_allNews.mpr ⟨hb, e⟩)) fun T e => ⟨_, c', e, by
        unfold sortKs; rw [if_neg h2]; exact vrs_pick (hV.mono T) _ hok, by
        unfold sortKs; rw [if_neg h2, List.length_map, List.length_map]
        exact Nat.le_trans hle (by omega)⟩
      exact ⟨.ref _, st.put _ _, H', F3, .ref _, ⟨_, _, rfl⟩, h _ p2⟩
end
end Mu
end
noncomputable section
open PySem PySem.W PySem.Calls PyProof.Rows
set_option Elab.async false
set_option linter.unusedVariables false
set_option linter.unusedSectionVars false
set_option maxRecDepth 100000

namespace Mu
section
variable {prog : Program} {w : World} {A : Around} {E : Value → Shared → Prop} {s : Shared}

theorem walksKeys (hh : A.handled = none) (I d : Addr) (hne : d ≠ I) (ar : Array DictEntry) (ep : Nat) :
    Walks prog w A I [I, d] [I] ar.size (fun i v => ∃ e : DictEntry, ar[i]? = some e ∧ v = e.key) (fun i h => h.IsKeyIter I d i ar.size ep ∧ DictIs h d ar ep) where
  sub := fun b hb => by simp at hb; simp [hb]
  frame := fun _ _ _ st hk => ⟨st.1.at fun o e => hk I (by simp) o e, let ⟨o, e, r⟩ := st.2; ⟨o, hk d (by simp) o e, r⟩⟩
  item := fun i s Q E hi st hQ => by
    refine next_key st.1 st.2 (Array.getElem?_eq_getElem hi) fun h' hit' hs' => ?_
    exact hQ _ h' s.toks ⟨_, Array.getElem?_eq_getElem hi, rfl⟩ ⟨hit', let ⟨o, e, r⟩ := st.2; ⟨o, (hs'.2 d hne).trans e, r⟩⟩ fun b o hb e => hs'.extBut b o (fun h => hb (by simp [h])) e
  done := fun s Q E st hQ => end_key hh st.1 st.2 fun h' he' => hQ h' s.toks fun b o hb e => he' b o (fun h => hb (by simp [h])) e
  self := fun _ _ _ _ st hQ => wpAny_pyIter_keyiter st.1 hQ

theorem extend_keys {R : Result → Shared → Prop} (hh : A.handled = none) {d : Addr} {ar : Array DictEntry} {ep : Nat} (hd : (d == sysModules) = false) (hm : DictIs s.heap d ar ep) (hn : ar.size ≤ sizeLine) (S : Addr) (hSd : S ≠ d) (res : Value) (c₀ : Nat) (hS : s.heap.get? S = some { cls := .type "list", data := .seq #[] c₀ })
    (hR : ∀ h' tk acc' c', (∀ b o, b ≠ S → s.heap.get? b = some o → h'.get? b = some o) → h'.get? S = some { cls := .type "list", dict := none, data := .seq acc' c', slots := #[] } →
      ItemsOf (fun i v => ∃ e : DictEntry, ar[i]? = some e ∧ v = e.key) acc' ar.size → R (.ok (.ret res)) { s with heap := h', toks := tk }) :
    wpAny (model prog w) A.in1 (Builtin.List.listExtendWith (.ref S) (.ref d) res)
      (fun fin s' => match fin with | .done f => R (.ok f) s' | .again c' => c'.quiet = true ∧ codeAny (model prog w) A c' R s') (fun e s' => R (.error e) s') s := by
  have hT := hm.typeIs
  have dlt : d < s.heap.objs.size := let ⟨o, e, _⟩ := hm; Heap.lt_size e
  have hSI : S ≠ s.heap.objs.size := Nat.ne_of_lt (Heap.lt_size hS)
  have hSf : S ∉ [s.heap.objs.size, d] := fun q => by
    simp only [List.mem_cons, List.not_mem_nil, or_false] at q
    exact q.elim hSI hSd
  unfold Builtin.List.listExtendWith
  refine wpAny_bind (wpAny_typeOf hT ?_)
  have h1 : Builtin.List.listSameRef (.ref S) (.ref d) = false := by simp [Builtin.List.listSameRef, hSd]
  have h2 : (Value.type "dict" == Value.type "list") = false := by decide
  have h3 : (Value.type "dict" == Value.type "tuple") = false := by decide
  simp only [h1, h2, h3, Bool.or_false, Bool.false_eq_true, if_false]
  refine wpAny_bind (iter_dict hd hm ?_)
  refine wpAny_bind (wpAny_holding ?_)
  generalize hpp : ({ s with heap := s.heap.push { cls := .type "dict_keyiterator", data := .fields #[.ref d, .int 0 0, .int ar.size 0, .int ep 0] } } : Shared) = s₁
  have hm₁ : DictIs s₁.heap d ar ep := by
    subst hpp
    obtain ⟨o, e, r⟩ := hm
    exact ⟨o, Heap.get?_push_of_some _ e, r⟩
  have hT₁ := hm₁.typeIs
  unfold Builtin.List.listLengthHint
  refine wpAny_bind (wpAny_specialOf hT₁ F.slot_dict_len.lookup ?_)
  wp_delta
  refine wpAny_bind (wpAny_isInstance (T := "dict") (b := true) hT₁ (by rw [isSubtype_type]; kernel_rfl) ?_)
  show wpAny _ _ (typeOf (Value.ref d) >>= _) _ _ _
  refine wpAny_bind (wpAny_typeOf hT₁ ?_)
  refine wpAny_pure ?_
  rw [if_pos (by decide)]
  subst hpp
  refine wpAny_bind (wpAny_rule ?_)
  refine wpAny_bind ?_
  have hS₁ : (s.heap.push { cls := .type "dict_keyiterator", data := .fields #[.ref d, .int 0 0, .int ar.size 0, .int ep 0] }).get? S = some { cls := .type "list", data := .seq #[] c₀ } := Heap.get?_push_of_some _ hS
  show wpAny _ A.in1 (updateSeq S (·.push .none) >>= fun _ => updateSeq S (·.pop)) _ _ _
  refine wpAny_bind (wpAny_updateSeq hS₁ rfl ?_)
  have hS₂ := Heap.get?_update_self (Obj.mapSeq (·.push Value.none)) hS₁ rfl
  refine wpAny_updateSeq (hz := by seq_fits) hS₂ rfl ?_
  have hS₃ := Heap.get?_update_self (Obj.mapSeq (·.pop)) hS₂ rfl
  have oth : ∀ b o, b ≠ S → (s.heap.push { cls := .type "dict_keyiterator", data := .fields #[.ref d, .int 0 0, .int ar.size 0, .int ep 0] }).get? b = some o →
      (((s.heap.push { cls := .type "dict_keyiterator", data := .fields #[.ref d, .int 0 0, .int ar.size 0, .int ep 0] }).update S (Obj.mapSeq (·.push Value.none))).update S (Obj.mapSeq (·.pop))).get? b = some o :=
    fun b o hb e => (Heap.get?_update_other _ _ (Ne.symm hb)).trans ((Heap.get?_update_other _ _ (Ne.symm hb)).trans e)
  refine wpAny_pure ⟨plainId_quiet F.plain_extend_loop _, codeAny_extend_loopS (walksKeys (A := A.in1) hh _ d (Nat.ne_of_lt dlt) ar ep).toS hn _ hSf _ ar.size 0 _ _ _ rfl (Nat.zero_le _) ⟨⟨_, oth _ _ (Ne.symm hSI) (Heap.get?_push_size _ rfl), rfl, rfl⟩, let ⟨o, e, r⟩ := hm₁; ⟨o, oth _ _ (Ne.symm hSd) e, r⟩⟩ hS₃ (ItemsOf.nil _) fun s' acc' c' hmv hS' hacc => ?_⟩
  rw [Moved.eq_with hmv]
  refine hR s'.heap s'.toks acc' c' (fun b ob hb e => hmv.heap b ob (fun hmem => ?_) (oth _ _ hb (Heap.get?_push_of_some _ e))) hS' hacc
  rcases List.mem_cons.mp hmem with e' | hmem
  · exact hb e'
  · exact absurd (Heap.lt_size e) (by rw [List.mem_singleton.mp hmem]; exact Nat.lt_irrefl _)

theorem call_list_keys {Q : Value → Shared → Prop} (hh : A.handled = none) {d : Addr} {ar : Array DictEntry} {ep : Nat} (hd : (d == sysModules) = false) (hm : DictIs s.heap d ar ep) (hn : ar.size ≤ sizeLine)
    (hQ : ∀ h' tk acc' c', (∀ b o, s.heap.get? b = some o → h'.get? b = some o) →
      h'.get? s.heap.objs.size = some { cls := .type "list", dict := none, data := .seq acc' c', slots := #[] } → ItemsOf (fun i v => ∃ e : DictEntry, ar[i]? = some e ∧ v = e.key) acc' ar.size → Q (.ref s.heap.objs.size) { s with heap := h', toks := tk }) :
    wpAny (model prog w) A (call (.type "list") [.ref d]) Q E s := by
  refine callType_codes (Q₁ := fun obj s₁ => obj = .ref s.heap.objs.size ∧ s₁ = { s with heap := s.heap.push { cls := .type "list", data := .seq #[] } }) F.called_list (F.typeCall_list_1 _) F.entry_list_init
    (code_list_new _ ⟨rfl, rfl⟩) fun obj s₁ h₁ => ?_
  obtain ⟨rfl, rfl⟩ := h₁
  have hS : (s.heap.push { cls := .type "list", data := .seq #[] }).get? s.heap.objs.size = some { cls := .type "list", data := .seq #[] } := Heap.get?_push_size _ rfl
  have dlt : d < s.heap.objs.size := let ⟨o, e, _⟩ := hm; Heap.lt_size e
  refine ⟨⟨_, hS, rfl⟩, F.args_list_init_2 _ _, ?_⟩
  show wpAny _ _ (do let old ← Builtin.List.listItems (.ref s.heap.objs.size); Builtin.List.listUpdate (.ref s.heap.objs.size) (fun _ => #[]); letGo old.toList.reverse; Builtin.List.listExtendWith (.ref s.heap.objs.size) (.ref d) .none) _ _ _
  refine wpAny_bind ?_
  unfold Builtin.List.listItems
  refine wpAny_bind (wpAny_seqItems hS rfl (wpAny_pure ?_))
  show wpAny _ _ (updateSeq s.heap.objs.size (fun _ => #[]) >>= fun _ => letGo (#[] : Array Value).toList.reverse >>= fun _ => Builtin.List.listExtendWith (.ref s.heap.objs.size) (.ref d) .none) _ _ _
  refine wpAny_bind (wpAny_updateSeq hS rfl ?_)
  have hS₂ := Heap.get?_update_self (Obj.mapSeq (fun _ => (#[] : Array Value))) hS rfl
  have oth : ∀ b o, s.heap.get? b = some o → ((s.heap.push { cls := .type "list", data := .seq #[] }).update s.heap.objs.size (Obj.mapSeq (fun _ => (#[] : Array Value)))).get? b = some o :=
    fun b o e => (Heap.get?_update_other _ _ (Nat.ne_of_gt (Heap.lt_size e))).trans (Heap.get?_push_of_some _ e)
  refine wpAny_bind (wpAny_letGo ?_)
  refine extend_keys (A := A.in1) hh hd (let ⟨o, e, r⟩ := hm; ⟨o, oth _ _ e, r⟩) hn _ (Nat.ne_of_gt dlt) .none _ hS₂ fun h' tk acc' c' hk hS' hacc => ?_
  exact ⟨rfl, hQ h' tk acc' c' (fun b o e => hk b o (Nat.ne_of_lt (Heap.lt_size e)) (oth b o e)) hS' hacc⟩
end

section
variable {c : Cx} {N : Nat} {ow : List Addr} {env : Env} {st : St}
theorem vrs_of_get {X : Hid} {h : Heap} : ∀ {vs : List Value} {ds : List AV}, vs.length = ds.length → (∀ (i : Nat) v d, vs[i]? = some v → ds[i]? = some d → VR X h v d) → VRs X h vs ds
  | [], [], _, _ => .nil
  | v :: vs, d :: ds, hl, hk => .cons (hk 0 v d rfl rfl) (vrs_of_get (by simpa using hl) fun i v d h1 h2 => hk (i + 1) v d (by simpa using h1) (by simpa using h2))
theorem Op_listKeys {x : Addr} {es : List (List Str × AV)} {ep : Nat} {k : AV → St → Prop} (hx : st.hp x = some (.dictS es ep)) (h : ∀ D, st.hp D = none → k (.ref D) (st.put D (.list (es.map fun p => aS p.1)))) :
    OpL c N ow env (fun vs => call (.type "list") vs) [.ref x] k st := fun A P s vs' R H F V => by
  apply V.r1; intro _ V
  apply V.rf
  obtain ⟨ar, h1, h2, h3⟩ := dictS_is (hp := st.hp) (H.objs x _ hx).2
  have hes : es.length ≤ 100000 := let ⟨_, _, _, z, _⟩ := (H.objs x _ hx).2; z
  refine call_list_keys R.1 (H.notSys hx) h1 (by rw [h2, sizeLine_eq]; omega) fun h' tk acc' c' kp hS ⟨z1, z2⟩ => ?_
  obtain ⟨mm, hn, hm, F₀⟩ := F0 F
  have N₁ := News.kept_cons F₀ (news_all (h := s.heap) (L := env.locals)) kp (Nat.le_refl _) hS
  obtain ⟨H', F', p2⟩ := backNew (ao := .list (es.map fun p => aS p.1)) H F hn hm (Fr.kept F₀ kp) N₁ (fun b o _ e => Heap.lt_size e) fun T e => ⟨acc'.toList, c', by rw [Array.toArray_toList]; exact e, by
    refine vrs_of_get (by rw [Array.length_toList, z1, h2, List.length_map]) fun i v d e1 e2 => ?_
    rw [List.getElem?_map] at e2
    obtain ⟨p, e3, rfl⟩ := Option.map_eq_some_iff.mp e2
    obtain ⟨e, e4, rfl⟩ := z2 i v (by simpa using e1)
    obtain ⟨e', e5, W⟩ := h3 i p e3
    rw [e4] at e5; cases e5
    exact W.mono T, by rw [List.length_map]; exact hes⟩
  exact ⟨.ref _, st.put _ _, H', F', .ref _, ⟨_, _, rfl⟩, h _ p2⟩
end
end Mu
end
noncomputable section
open PySem PySem.W PySem.Calls PyProof.Rows
set_option Elab.async false
set_option linter.unusedVariables false
set_option linter.unusedSectionVars false
set_option maxRecDepth 100000

namespace Mu
theorem plain_dul : plainId "dict.update.loop" = true := by decide +kernel
theorem entry_dul : entryFor table "dict.update.loop" = some Builtin.«dict.update.loop» := entryFor_of_fast (by kernel_rfl)
theorem keys_miss : typeLookup (.type "list") "keys" = pure none := am_miss_of_fast (by decide +kernel)

set_option maxHeartbeats 4000000 in
theorem no_keys {prog : Program} {w : World} {A : Around} {E : Value → Shared → Prop} {s : Shared} {a : Addr} {o : Obj} {xs : Array Value} {k : Nat} {Q : Option Value → Shared → Prop}
    (hx : s.heap.get? a = some o) (hc : o.cls = .type "list") (hdat : o.data = .seq xs k) (hd : o.dict = none) (hA : A.handled = none)
    (h : ∀ h' tk, (∀ b o, s.heap.get? b = some o → h'.get? b = some o) → Q none { s with heap := h', toks := tk }) :
    wpAny (model prog w) A (getAttr? (.ref a) "keys") Q E s := by
  obtain ⟨c, dct, dat, sl⟩ := o
  simp only at hc hdat hd
  subst hc hdat hd
  obtain ⟨hp, g, d, tk, os⟩ := s
  have hT : ∀ tk', (⟨hp, g, d, tk', os⟩ : Shared).TypeIs (.ref a) "list" := fun _ => ⟨_, hx, rfl⟩
  have f1 := sub_AttributeError
  have f3 := F.slot_list_getattribute.lookup
  have f4 := F.slot_list_getattribute.bind (.ref a)
  have f5 := am_list_getattr_none
  unfold getAttr? getAttrBy? getAttrBy
  repeat (any_goals (first | assumption | exact hT _ | ((with_reducible show wpAny _ _ (call (Value.builtin "list.__getattribute__") _ _) _ _ _); refine call_meets F.slot_list_getattribute (hT _) am_entry_list_getattribute (F.args_list_getattribute_2 _ _) (meets_getattribute_miss_list a xs k sl "keys" _ keys_miss (by decide +kernel) (by size_fits)) ⟨hx, hA, fun h' tk' e hx' => ?_⟩) | wp_step))
  obtain ⟨t', u', he⟩ := hx'.there
  show wpAny _ _ (getattributeRaised _ _ _ _ _ _ _) _ _ _
  unfold getattributeRaised
  repeat (any_goals (first | assumption | wp_step))
  exact h h' tk' hx'.keeps

/-- pairs put one by one -/
def dputs (es : List (List Str × AV)) : List (List Str × AV) → List (List Str × AV)
  | [] => es
  | p :: r => dputs (dput es p.1 p.2) r
def pairAV (p : List Str × AV) : AV := .tup [aS p.1, p.2]
theorem dput_len (es : List (List Str × AV)) (k : List Str) (a : AV) : (dput es k a).length ≤ es.length + 1 := by
  unfold dput
  split
  · rw [List.length_map]; omega
  · rw [List.length_append]; simp
theorem dputs_len : ∀ (ps es : List (List Str × AV)), (dputs es ps).length ≤ es.length + ps.length
  | [], es => Nat.le_refl _
  | p :: r, es => by
    have h1 := dputs_len r (dput es p.1 p.2)
    have h2 := dput_len es p.1 p.2
    show (dputs (dput es p.1 p.2) r).length ≤ _
    rw [List.length_cons]; omega

section
variable {c : Cx} {A : Around} {R : Result → Shared → Prop}
theorem dict_loop {X : Hid} {l I D : Addr} (hA : A.handled = none) (hu : A.units + 100 < cLine) (hlI : l ≠ I) (hlD : l ≠ D) (hID : I ≠ D) :
    ∀ (ps : List (List Str × AV)) (vs : List Value) (n i : Nat) (u : Tok) (s : Shared) (xs : List (List Str × Addr × Value)) (es : List (List Str × AV)), s.heap.IsListIter I l i → IsL s.heap l vs.toArray n → VRs X s.heap (vs.drop i) (ps.map pairAV) → vs.length = i + ps.length →
      s.heap.DictOfH (kS c) D xs → KV X s.heap aS xs es → es.length + ps.length ≤ 100000 → (∀ vs' n', ¬ IsT s.heap I vs' n') → (∀ vs' n', ¬ IsT s.heap D vs' n') →
      (∀ h' tk xs', (∀ b o, b ≠ I → b ≠ D → s.heap.get? b = some o → h'.get? b = some o) → h'.DictOfH (kS c) D xs' → KV X h' aS xs' (dputs es ps) → R (.ok (.ret .none)) { s with heap := h', toks := tk }) →
      codeAny c.M A (.builtin "dict.update.loop" ⟨[.ref D, .ref I, .int i u, .none], []⟩) R s
  | [], vs, n, i, u, s, xs, es, hit, hl, V, hlen, hm, kv, hz, ntI, ntD, hR => by
    refine codeAny_builtin entry_dul ?_
    rw [Around.under_plainId plain_dul _]
    show wpAny _ A.in1 (pyNext (.ref I) >>= _) _ _ s
    refine wpAny_bind (wpAny_pyNext_list_end hA hit hl.isList (by rw [List.getElem?_toArray, List.getElem?_eq_none]; rw [hlen]; exact Nat.le_refl _) fun h' he => ?_)
    show wpAny _ _ (Builtin.Dict.addKeywords D [] >>= _) _ _ _
    refine wpAny_bind (wpAny_pure (wpAny_pure ?_))
    have k0 : ∀ b o, b ≠ I → s.heap.get? b = some o → h'.get? b = some o := fun b o hb e => he b o hb e
    have T : TK X s.heap X h' := fun a vs n x e => ⟨x, k0 a _ (fun q => ntI _ _ (q ▸ e)) e⟩
    exact hR h' s.toks xs (fun b o hb _ e => k0 b o hb e) (dictOfH_mono T (fun o e => k0 _ o (Ne.symm hID) e) hm kv) (kv.mono T)
  | p :: ps, vs, n, i, u, s, xs, es, hit, hl, V, hlen, hm, kv, hz, ntI, ntD, hR => by
    obtain ⟨v, hv⟩ : ∃ v, vs[i]? = some v := ⟨vs[i]'(by rw [hlen, List.length_cons]; omega), List.getElem?_eq_getElem _⟩
    have hd : vs.drop i = v :: vs.drop (i + 1) := by
      have := List.drop_eq_getElem_cons (l := vs) (i := i) (by rw [hlen, List.length_cons]; omega)
      rw [this]
      have e2 := List.getElem?_eq_getElem (l := vs) (i := i) (by rw [hlen, List.length_cons]; omega)
      rw [e2] at hv; cases hv; rfl
    rw [hd, List.map_cons] at V
    cases V with
    | cons V1 V2 =>
    refine codeAny_builtin entry_dul ?_
    rw [Around.under_plainId plain_dul _]
    show wpAny _ A.in1 (pyNext (.ref I) >>= _) _ _ s
    refine wpAny_bind (wpAny_pyNext_list_item hit hl.isList (x := v) (by simpa using hv) fun h₁ hit₁ hs₁ => ?_)
    have k1 : ∀ b o, b ≠ I → s.heap.get? b = some o → h₁.get? b = some o := fun b o hb e => (hs₁.2 b hb).trans e
    have T1 : TK X s.heap X h₁ := fun a vs n x e => ⟨x, k1 a _ (fun q => ntI _ _ (q ▸ e)) e⟩
    have V1' := V1.mono T1
    unfold pairAV at V1'
    apply V1'.rT; intro t ws nt hT hx hV
    cases hV with
    | cons W1 r =>
    cases r with
    | cons W2 r =>
    cases r
    rename_i kv' vv
    obtain ⟨ka, rfl⟩ := aS_ref W1
    have hm₁ := dictOfH_mono T1 (fun o e => k1 _ o (Ne.symm hID) e) hm kv
    have kv₁ := kv.mono T1
    refine wpAny_bind (wpAny_holding ?_)
    refine wpAny_bind (wpAny_tryCatch ?_)
    · unfold Builtin.Dict.pairItems
      refine wpAny_bind (wpAny_typeOf (T := "tuple") ⟨_, hT, rfl⟩ ?_)
      rw [if_pos (by decide)]
      refine wpAny_bind (wpAny_seqItems hT rfl (wpAny_pure ?_))
      show wpAny _ _ (holding [Value.ref ka, vv] (dictSet D (.ref ka) vv)) _ _ _
      refine wpAny_holding (wpAny_dictSet_heap (knd := kS c) (by show A.in1.units < cLine; show A.units + 1 < cLine; omega) (keyS W1) hm₁ (fun h₂ hm₂ hs₂ => ?_) (by rw [kv.length, sizeLine_eq]; omega))
      have k2 : ∀ b o, b ≠ D → h₁.get? b = some o → h₂.get? b = some o := fun b o hb e => (hs₂.2 b hb).trans e
      have ntD1 : ∀ vs' n', ¬ IsT h₁ D vs' n' := fun vs' n' e => by
        obtain ⟨o, _, _, e1, _, d1, _⟩ := hm₁
        rw [e] at e1; cases e1; cases d1
      have T2 : TK X h₁ X h₂ := fun a vs n x e => ⟨x, k2 a _ (fun q => ntD1 _ _ (q ▸ e)) e⟩
      have hz' : (dput es p.1 p.2).length + ps.length ≤ 100000 := by
        have := dput_len es p.1 p.2
        rw [List.length_cons] at hz; omega
      refine wpAny_pure ⟨plainId_quiet plain_dul _, ?_⟩
      have ih := dict_loop (X := X) hA hu hlI hlD hID ps vs n (i + 1) 0 { s with heap := h₂, toks := s.toks + (kS c).draws p.1 } _ (dput es p.1 p.2) (hit₁.at fun o e => k2 _ o hID e) (k2 _ _ hlD (k1 _ _ hlI hl)) ((V2.mono T1).mono T2)
        (by rw [hlen, List.length_cons]; omega) hm₂ ((kv₁.stored W1 W2).mono T2) hz' (fun vs' n' e => by
          obtain ⟨o, e1, _, d1⟩ := hit₁
          have := k2 _ _ hID e1
          have e : h₂.get? I = some _ := e
          rw [this] at e; cases e; cases d1) (fun vs' n' e => by
          obtain ⟨o, _, _, e1, _, d1, _⟩ := hm₂
          have e : h₂.get? D = some _ := e
          rw [e1] at e; cases e; cases d1)
        fun h' tk xs' kk a1 a2 => hR h' tk xs' (fun b o b1 b2 e => kk b o b1 b2 (k2 b o b2 (k1 b o b1 e))) a1 a2
      have e : ((i + 1 : Nat) : Int) = (i : Int) + 1 := by omega
      rw [e] at ih
      exact ih
end

section
variable {c : Cx} {N : Nat} {ow : List Addr} {env : Env} {st : St}
theorem Op_dictL {x : Addr} {ps : List (List Str × AV)} {k : AV → St → Prop} (hx : st.hp x = some (.list (ps.map pairAV))) (h : ∀ D ep, st.hp D = none → k (.ref D) (st.put D (.dictS (dputs [] ps) ep))) :
    OpL c N ow env (fun vs => call (.type "dict") vs) [.ref x] k st := fun A P s vs' R H Fx V => by
  apply V.r1; intro _ V
  apply V.rf
  obtain ⟨vs, n, hl, hV, hz⟩ := (H.objs x _ hx).2
  have hlen : vs.length = ps.length := by rw [hV.length, List.length_map]
  rw [List.length_map] at hz
  have hu := R.units
  refine callType_codes (Q₁ := fun obj s₁ => obj = .ref s.heap.objs.size ∧ s₁ = { s with heap := s.heap.push { cls := .type "dict", data := .dict #[] } }) F.kt_called_dict (F.kt_typeCall_dict_1 _) F.entry_dict_init (kt_code_dict_new _ ⟨rfl, rfl⟩) ?_
  rintro obj s₁ ⟨rfl, rfl⟩
  have hnew : (s.heap.push { cls := .type "dict", data := .dict #[] }).DictOfH (kS c) s.heap.objs.size [] := Heap.DictOfH.new s.heap
  have hl' : IsL (s.heap.push { cls := .type "dict", data := .dict #[] }) x vs.toArray n := Heap.get?_push_of_some _ hl
  have xlt : x < s.heap.objs.size := Heap.lt_size hl
  refine ⟨hnew.typeIs, F.args_dict_init_2 _ _, ?_⟩
  unfold Builtin.«dict.__init__»
  refine wpAny_bind ?_
  unfold Builtin.Dict.selfAndRest
  refine wpAny_bind (wpAny_notOrdered_dict hnew.typeIs ?_)
  show wpAny _ _ (pure (s.heap.objs.size, [Value.ref x])) _ _ _
  refine wpAny_pure ?_
  show wpAny _ _ (Builtin.Dict.updateFrom "dict.__init__" s.heap.objs.size (.ref x) [] .none) _ _ _
  unfold Builtin.Dict.updateFrom
  refine wpAny_bind (wpAny_typeOf (T := "list") ⟨_, hl', rfl⟩ ?_)
  rw [if_pos (by decide)]
  refine wpAny_bind (no_keys hl' rfl rfl rfl R.1 fun h₁ tk₁ k₁ => ?_)
  rw [if_pos (by rfl)]
  refine wpAny_bind (wpAny_rule ?_)
  refine wpAny_bind (wpAny_pyIter_list (Heap.IsList.at (IsL.isList hl') fun o e => k₁ _ o e) ?_)
  have kk0 : ∀ b o, (s.heap.push { cls := .type "dict", data := .dict #[] }).get? b = some o → (h₁.push { cls := .type "list_iterator", data := .fields #[.ref x, .int 0 0] }).get? b = some o := fun b o e => Heap.get?_push_of_some _ (k₁ b o e)
  have kk : ∀ b o, s.heap.get? b = some o → (h₁.push { cls := .type "list_iterator", data := .fields #[.ref x, .int 0 0] }).get? b = some o := fun b o e => kk0 b o (Heap.get?_push_of_some _ e)
  have T : TK P.x s.heap P.x (h₁.push { cls := .type "list_iterator", data := .fields #[.ref x, .int 0 0] }) := .of kk
  have gI : (h₁.push { cls := .type "list_iterator", data := .fields #[.ref x, .int 0 0] }).get? h₁.objs.size = some { cls := .type "list_iterator", data := .fields #[.ref x, .int 0 0] } := Heap.get?_push_size _ rfl
  obtain ⟨oD, _, _, eD, cD, dD, _⟩ := id hnew
  have hDI : h₁.objs.size ≠ s.heap.objs.size := Nat.ne_of_gt (Heap.lt_size (k₁ _ _ eD))
  have hm₁ : (h₁.push { cls := .type "list_iterator", data := .fields #[.ref x, .int 0 0] }).DictOfH (kS c) s.heap.objs.size [] := by
    obtain ⟨o, es', ep, h1, h2, h3, h4, h5, h6⟩ := hnew
    exact ⟨o, es', ep, kk0 _ _ h1, h2, h3, h4, fun x hx => by (cases hx), h6⟩
  refine wpAny_pure ⟨plainId_quiet plain_dul _, ?_⟩
  refine dict_loop (c := c) (X := P.x) (l := x) (I := h₁.objs.size) (D := s.heap.objs.size) (A := A.in1) R.1 (by show A.units + 1 + 100 < cLine; rw [cLine_is]; have := R.2.2; omega) (Nat.ne_of_lt (Nat.lt_trans xlt (Heap.lt_size (k₁ _ _ eD)))) (Nat.ne_of_lt xlt) hDI ps vs n 0 _ _ [] []
    ⟨_, gI, rfl, rfl⟩ (kk _ _ hl) (by rw [List.drop_zero]; exact hV.mono T) (by rw [hlen]; omega) hm₁ .nil (by simpa using hz) (notT_cls gI li_ne) (fun vs' n' e => by
      have e : (h₁.push _).get? _ = some _ := e
      rw [kk0 _ _ eD] at e; cases e; cases dD) fun h' tk xs' k₂ hm' kv' => ⟨rfl, ?_⟩
  obtain ⟨mm, hn, hm, F₀⟩ := F0 Fx
  have kp : ∀ b o, s.heap.get? b = some o → h'.get? b = some o := fun b o e => k₂ b o (Nat.ne_of_lt (Nat.lt_trans (Heap.lt_size e) (Heap.lt_size (k₁ _ _ eD)))) (Nat.ne_of_lt (Heap.lt_size e)) (kk b o e)
  obtain ⟨o', es', ep', e1, e2, e3, e4⟩ := id hm'
  have N₁ := News.kept_cons F₀ (news_all (h := s.heap) (L := env.locals)) kp (Nat.le_refl _) e1
  obtain ⟨H', F', p2⟩ := backNew (ao := .dictS (dputs [] ps) ep') H Fx hn hm (Fr.kept F₀ kp) N₁ (fun b o _ e => Heap.lt_size e) fun T e => ⟨xs', hm', kv', Nat.le_trans (dputs_len ps []) (by simpa using hz), fun o es'' ep'' q1 q2 => by
    rw [e1] at q1; cases q1; rw [e3] at q2; cases q2; rfl⟩
  exact ⟨.ref _, st.put _ _, H', F', .ref _, ⟨_, _, rfl⟩, h _ _ p2⟩
end
end Mu
end
noncomputable section
open PySem PySem.W PySem.Calls PyProof.Rows
set_option Elab.async false
set_option linter.unusedVariables false
set_option linter.unusedSectionVars false
set_option maxRecDepth 100000

namespace Mu
section
variable {prog : Program} {w : World} {A : Around} {E : Value → Shared → Prop} {s : Shared}
-- a tuple's first items
theorem adjust_upto (a n : Nat) (ha : a ≤ n) : Builtin.Slice.sliceAdjust none (some (a : Int)) 1 (n : Int) = (0, (a : Int)) := by
  unfold Builtin.Slice.sliceAdjust
  have h1 : ¬ ((1 : Int) < 0) := by omega
  have h2 : ¬ ((a : Int) < 0) := by omega
  simp only [h1, h2, if_false]
  congr 1
  omega
theorem places_upto (a : Nat) : Builtin.Slice.slicePlaces 0 (a : Int) 1 = a := by
  unfold Builtin.Slice.slicePlaces
  have h1 : (1 : Int) > 0 := by omega
  simp only [h1, if_true, Int.ediv_one]
  split <;> omega
theorem applied_upto {sl : Addr} {a n : Nat} {u : Tok} {Q : Int × Int × Nat → Shared → Prop} (hs : s.heap.IsSliceOf sl .none (.int a u) .none) (ha : a ≤ n) (h : Q (0, 1, a) s) :
    wpAny (model prog w) A (Builtin.Slice.sliceApplied (.ref sl) (pure (n : Int))) Q E s := by
  obtain ⟨os, hos, hcs, hds⟩ := id hs
  unfold Builtin.Slice.sliceApplied Builtin.Slice.sliceFields
  refine wpAny_bind (wpAny_bind (wpAny_field hos hds (x := .none) rfl (wpAny_bind (wpAny_field hos hds (x := .int a u) rfl (wpAny_bind (wpAny_field hos hds (x := .none) rfl (wpAny_pure ?_)))))))
  refine wpAny_bind (slicePart_none ?_)
  show wpAny _ _ (if ((1 : Int) == 0) = true then _ else _) _ _ s
  rw [if_neg (by decide)]
  refine wpAny_bind (slicePart_none (wpAny_bind (slicePart_int (wpAny_bind (wpAny_pure ?_)))))
  show wpAny _ _ (match Builtin.Slice.sliceAdjust none (some (a : Int)) 1 (n : Int) with | (lo, hi) => pure (lo, (1 : Int), Builtin.Slice.slicePlaces lo hi 1)) _ _ s
  rw [adjust_upto a n ha]
  show wpAny _ _ (pure ((0 : Int), (1 : Int), Builtin.Slice.slicePlaces 0 (a : Int) 1)) _ _ s
  rw [places_upto a]
  exact wpAny_pure h
theorem pick_upto (xs : Array Value) (a : Nat) : ((List.range a).filterMap fun (k : Nat) => xs[((0 : Int) + (k : Int) * 1).toNat]?).toArray = (xs.toList.take a).toArray := by
  have e : (fun (k : Nat) => xs[((0 : Int) + (k : Int) * 1).toNat]?) = fun k => xs[0 + k]? := by
    funext k
    have : ((0 : Int) + (k : Int) * 1).toNat = 0 + k := by omega
    rw [this]
  rw [e]
  have := pick_run xs 0 a
  rw [List.filterMap_map] at this
  have e2 : ((fun x => xs[x]?) ∘ fun x => 0 + x) = fun k => xs[0 + k]? := rfl
  rw [e2] at this
  rw [this, List.drop_zero]
theorem getItem_upto {t sl : Addr} {items : Array Value} {a : Nat} {u : Tok} {Q : Value → Shared → Prop} (ht : IsTup s.heap t items) (hs : s.heap.IsSliceOf sl .none (.int a u) .none) (ha : a < items.size)
    (h : Q (.ref s.heap.objs.size) { s with heap := s.heap.push { cls := .type "tuple", data := .seq (items.toList.take a).toArray } })
    (hsz : items.size ≤ sizeLine) : wpAny (model prog w) A (getItem (.ref t) (.ref sl)) Q E s := by
  have hdrop : sizeOk (.seq (items.toList.take a).toArray) := by
    show (items.toList.take a).toArray.size ≤ sizeLine
    rw [List.size_toArray, List.length_take, Array.length_toList]
    omega
  obtain ⟨os, hos, hcs, hds⟩ := id hs
  have hTs : s.TypeIs (.ref sl) "slice" := ⟨os, hos, hcs⟩
  unfold getItem
  try with_reducible refine wpAny_holding ?_
  first | refine wpAny_bind (wpAny_pure ?_) | skip
  refine wpAny_bind (wpAny_sequenceKey ht.typeIs (by decide) ?_)
  refine wpAny_bind (wpAny_callSpecial?_slot (name := Str.ofString "__getitem__") ht.typeIs slot_tuple_getitem
    (wpAny_call_entry slot_tuple_getitem ht.typeIs entry_tuple_getitem ?_ (args_tuple_getitem _ _)))
  show wpAny _ _ (Builtin.Tuple.tupleItemsOf (.ref t) >>= _) _ _ s
  refine wpAny_bind (tupleItemsOf_ ht ?_)
  refine wpAny_bind (wpAny_typeOf hTs ?_)
  rw [if_pos (by decide)]
  refine wpAny_bind (applied_upto hs (Nat.le_of_lt ha) ?_)
  have hno : ¬ (((0 : Int) == 0 && (1 : Int) == 1 && a == items.size) = true) := by
    have : (a == items.size) = false := by rw [beq_eq_false_iff_ne]; omega
    rw [this]; simp
  show wpAny _ _ (if ((0 : Int) == 0 && (1 : Int) == 1 && a == items.size) = true then _ else _) _ _ s
  rw [if_neg hno, pick_upto items a]
  first
    | exact wpAny_bind (m := Builtin.Tuple.tupleExact _) (wpAny_newObj_type (wpAny_pure ⟨_, rfl, wpAny_pure h⟩) hdrop)
    | exact wpAny_bind (m := Builtin.Tuple.tupleExact _) (wpAny_newObj_type (wpAny_bind (wpAny_pure (wpAny_pure ⟨_, rfl, wpAny_pure h⟩))) hdrop)
    | exact wpAny_bind (wpAny_bind (m := Builtin.Tuple.tupleExact _) (wpAny_newObj_type (wpAny_pure (wpAny_pure ⟨_, rfl, wpAny_pure h⟩)) hdrop))
    | exact wpAny_bind (wpAny_bind (m := Builtin.Tuple.tupleExact _) (wpAny_newObj_type (wpAny_pure ⟨_, rfl, wpAny_pure h⟩) hdrop))
end

section
variable {c : Cx} {N : Nat} {ow : List Addr} {env : Env} {st : St}
theorem Op_tupleL {x : Addr} {l : List AV} {k : AV → St → Prop} (hx : st.hp x = some (.list l)) (h : k (.tup l) st) : OpL c N ow env (fun vs => call (.type "tuple") vs) [.ref x] k st := fun A P s vs' R H F V => by
  apply V.r1; intro _ V
  apply V.rf
  obtain ⟨vs, n, hl, hV, hz⟩ := (H.objs x _ hx).2
  refine call_tuple_list hl.isList (fun h' k' => ?_) (by rw [List.size_toArray, hV.length, sizeLine_eq]; omega)
  have H1 : HR c P st.hp h' := H.ext k'
  have F1 := F.keeps k'
  exact ⟨_, st, H1.push _, F1.push _, .tup (IsT.new _ _) H1.notHid ((hV.mono (.of k')).mono (TK.push _ _ _)), ⟨_, _, rfl⟩, h⟩

/-- l[::-1] -/
theorem Ev_SubRev {value sp : Expr} {p pos : Pos} {k : AV → St → Prop}
    (h : Ev c N ow env (eval value env) (fun a st₁ => ∃ x items, a = .ref x ∧ Ev c N ow env (eval sp env) (fun b st₂ => b = .int (-1) ∧ st₂.hp x = some (.list items) ∧ ∀ D, st₂.hp D = none → k (.ref D) (st₂.put D (.list items.reverse))) st₁) st)
    (hs : ∀ (l i : Addr), ∃ ops, subscripted (.Slice none none (some sp) p) false (.ref l) (.ref i) = operate ops (getItem (.ref l) (.ref i)) := by intro _ _; exact ⟨_, by with_unfolding_all rfl⟩) :
    Ev c N ow env (eval (.Subscript value (.Slice none none (some sp) p) pos) env) k st := fun A P s R H F =>
  Subscript_ (h.then R H F fun v s₁ a st₁ H₁ F₁ V₁ E₁ ⟨x, items, e, h₁⟩ _ _ => wpAny_Slice (by
    rw [evalPart_none, evalPart_some]
    refine wpAny_pure (wpAny_pure (h₁.then R H₁ F₁ fun u s₂ b st₂ H₂ F₂ V₂ E₂ ⟨eb, ho, q⟩ T₂ _ => ?_))
    subst e; subst eb
    apply V₁.rf
    apply V₂.rI; intro t
    obtain ⟨vs, n, hl, hV, hz⟩ := (H₂.objs x _ ho).2
    have hl' : (s₂.heap.push { cls := .type "slice", data := .fields #[.none, .none, .int (-1) t] }).IsList x vs.toArray := hl.isList.push _
    refine tail_any (s := { s₂ with heap := s₂.heap.push { cls := .type "slice", data := .fields #[.none, .none, .int (-1) t] } }) hl'.typeIs slot_list_getitem.lookup
      (wpAny_getItem_list_slice hl' (Heap.IsSliceOf.new ..) .none .none (.int _ t) (by decide) ?_ (by rw [List.size_toArray, hV.length, sizeLine_eq]; omega)) (hs _ _).choose_spec
    rw [krv_pick]
    have H3 : HR c P st₂.hp (s₂.heap.push { cls := .type "slice", data := .fields #[.none, .none, .int (-1) t] }) := H₂.push _
    have F3 : FR P ow env st₂ (s₂.heap.push { cls := .type "slice", data := .fields #[.none, .none, .int (-1) t] }) := F₂.push _
    exact ⟨_, st₂.put _ _, H3.new (OR_newList (hV.mono (TK.push _ _ _)).reverse (by rw [List.length_reverse]; exact hz)), F3.new _, .ref _, E₁.trans (E₂.trans ⟨_, _, rfl⟩), q _ H3.fresh⟩))

/-- t[:a] of a longer tuple -/
theorem Ev_SubTup {value sp : Expr} {p pos : Pos} {k : AV → St → Prop}
    (h : Ev c N ow env (eval value env) (fun a st₁ => ∃ l, a = .tup l ∧ Ev c N ow env (eval sp env) (fun b st₂ => ∃ n : Nat, b = .int n ∧ n < l.length ∧ l.length ≤ 1000 ∧ k (.tup (l.take n)) st₂) st₁) st)
    (hs : ∀ (l i : Addr), ∃ ops, subscripted (.Slice none (some sp) none p) false (.ref l) (.ref i) = operate ops (getItem (.ref l) (.ref i)) := by intro _ _; exact ⟨_, by with_unfolding_all rfl⟩) :
    Ev c N ow env (eval (.Subscript value (.Slice none (some sp) none p) pos) env) k st := fun A P s R H F =>
  Subscript_ (h.then R H F fun v s₁ a st₁ H₁ F₁ V₁ E₁ ⟨l, e, h₁⟩ _ _ => wpAny_Slice (by
    rw [evalPart_none, evalPart_some]
    refine wpAny_pure (h₁.then R H₁ F₁ fun u s₂ b st₂ H₂ F₂ V₂ E₂ ⟨n, eb, hn, hz, q⟩ T₂ _ => wpAny_pure ?_)
    subst e; subst eb
    have V3 := V₁.mono T₂
    apply V3.rT; intro a vs m hT hx hV
    apply V₂.rI; intro t
    have hlen := hV.length
    have ht : IsTup (s₂.heap.push { cls := .type "slice", data := .fields #[.none, .int (n : Int) t, .none] }) a vs.toArray := ⟨_, Heap.get?_push_of_some _ hT, rfl, _, rfl⟩
    refine tail_any (s := { s₂ with heap := s₂.heap.push { cls := .type "slice", data := .fields #[.none, .int (n : Int) t, .none] } }) ht.typeIs slot_tuple_getitem.lookup
      (getItem_upto ht (Heap.IsSliceOf.new ..) (by rw [List.size_toArray]; omega) ?_ (by rw [List.size_toArray, sizeLine_eq]; omega)) (hs _ _).choose_spec
    have H3 : HR c P st₂.hp (s₂.heap.push { cls := .type "slice", data := .fields #[.none, .int (n : Int) t, .none] }) := H₂.push _
    have F3 : FR P ow env st₂ (s₂.heap.push { cls := .type "slice", data := .fields #[.none, .int (n : Int) t, .none] }) := F₂.push _
    exact ⟨_, st₂, H3.push _, F3.push _, .tup (IsT.new _ _) H3.notHid (((hV.take n).mono (TK.push _ _ _)).mono (TK.push _ _ _)), E₁.trans (E₂.trans ⟨_, _, rfl⟩), q⟩))

/-- x[:j] of a str -/
theorem Ev_SubStr {value sp : Expr} {p pos : Pos} {k : AV → St → Prop}
    (h : Ev c N ow env (eval value env) (fun a st₁ => ∃ x, a = .str x ∧ x.length ≤ 1000 ∧ Ev c N ow env (eval sp env) (fun b st₂ => ∃ j : Int, b = .int j ∧ k (.str (PySem.Txt.slice x none (some j))) st₂) st₁) st)
    (hs : ∀ x t i, subscripted (.Slice none (some sp) none p) false (.str x t) (.ref i) = operate [.ref i, .str x t] (getItem (.str x t) (.ref i)) := by intro _ _ _; with_unfolding_all rfl)
    (ht : ∀ x t r, letTemporaryGo value (.str x t) r = pure () := by intro _ _ _; with_unfolding_all rfl) :
    Ev c N ow env (eval (.Subscript value (.Slice none (some sp) none p) pos) env) k st := fun A P s R H F =>
  Subscript_ (h.then R H F fun v s₁ a st₁ H₁ F₁ V₁ E₁ ⟨x, e, hz, h₁⟩ _ _ => wpAny_Slice (by
    rw [evalPart_none, evalPart_some]
    refine wpAny_pure (h₁.then R H₁ F₁ fun u s₂ b st₂ H₂ F₂ V₂ E₂ ⟨j, eb, q⟩ T₂ _ => wpAny_pure ?_)
    subst e; subst eb
    apply V₁.rS; intro t
    apply V₂.rI; intro uj
    obtain ⟨mm, hn, hm, F₀⟩ := F0 F₂
    refine slice_strN_ns F₀ news_all (fun h' t' k' F' N' => ?_) (hs _ _ _) (ht _ _) (by rw [sizeLine_eq]; omega)
    obtain ⟨H', F'', T⟩ := back0 H₂ F₂ hn hm F' N'
    exact ⟨_, st₂, H', F'', .str _ _, E₁.trans (E₂.trans ⟨_, _, rfl⟩), q⟩))

/-- x in a list of ints -/
theorem eqInt (i j : Int) (t u : Tok) (A : Around) (s : Shared) : SeqAt.EqAt A s (.int i t) (.int j u) (decide (i = j)) := fun prog w E Q q => wpAny_eqBool_int (by rw [Bool.beq_eq_decide_eq]; exact q)
def intIs (i : Int) : Value → Bool
  | .int j _ => decide (j = i)
  | _ => false
theorem Op_inInts {x : Addr} {i : Int} {is : List Int} {k : AV → St → Prop} (hx : st.hp x = some (.list (is.map .int))) (h : k (.bool (decide (i ∈ is))) st) : Op2 c N ow env (compareOp .In) (.int i) (.ref x) k st := fun A P s v u R H F V W => by
  apply V.rI; intro t
  apply W.rf
  obtain ⟨vs, n, hl, hV, hz⟩ := (H.objs x _ hx).2
  have all : ∀ {vs : List Value} {is : List Int}, VRs P.x s.heap vs (is.map .int) → (∀ y ∈ vs, ∃ j u, y = .int j u) ∧ vs.any (intIs i) = decide (i ∈ is) := by
    intro vs is
    induction is generalizing vs with
    | nil => intro V; cases V; exact ⟨fun y hy => (by cases hy), by simp⟩
    | cons j is ih =>
      intro V
      cases V with
      | cons V1 V2 =>
        cases V1 with
        | int _ u =>
        obtain ⟨h1, h2⟩ := ih V2
        refine ⟨fun y hy => ?_, ?_⟩
        · rcases List.mem_cons.mp hy with rfl | hy
          · exact ⟨_, _, rfl⟩
          · exact h1 y hy
        · rw [List.any_cons, h2]
          have e : intIs i (.int j u) = decide (i = j) := by
            show decide (j = i) = decide (i = j)
            exact decide_eq_decide.mpr ⟨Eq.symm, Eq.symm⟩
          rw [e]
          by_cases q : i = j <;> simp [q]
  obtain ⟨h1, h2⟩ := all hV
  refine SeqAt.in_listAt (intIs i) hl.isList (fun y hy => ?_) ?_
  · obtain ⟨j, u, rfl⟩ := h1 y (by simpa using hy)
    exact eqInt j i u t _ _
  · rw [List.any_toArray, h2]
    exact ⟨_, st, H, F, .bool _, .refl _, h⟩

/-- a list of two unpacked -/
theorem Un1_TupleL2 {elts : List Expr} {n : Nat} {pos : Pos} {x : Addr} {a b : AV} {k : St → Prop} (hx : st.hp x = some (.list [a, b])) (h : UnL c N ow env ((assignEach elts env).map (·.2)) [a, b] k st) (hn : (assignEach elts env).length = 2 := by rfl)
    (hstar : (assignEach elts env).findIdx? (·.1) = none := by rfl) : Un1 c N ow env (assign (.Tuple elts n pos) env) (.ref x) k st := fun A P s v R H F V => by
  apply V.rf
  obtain ⟨vs, m, hl, hV, hz⟩ := (H.objs x _ hx).2
  cases hV with
  | cons V1 r =>
  cases r with
  | cons V2 r =>
  cases r
  rename_i v1 v2
  rw [arm_assign_Tuple]
  refine wpAny_bind (wpAny_standAt ?_)
  unfold unpack
  rw [hn, hstar]
  refine wpAny_bind (wpAny_holding ?_)
  unfold unpackItems notIterableAtAll
  have hL := hl.isList
  refine wpAny_bind (wpAny_bind (wpAny_specialOf hL.typeIs slot_list_iter.lookup (wpAny_pure ?_)))
  simp only [Bool.false_eq_true, if_false]
  refine wpAny_bind (wpAny_holding (wpAny_pyIter_list hL ?_))
  have xlt : x < s.heap.objs.size := Heap.lt_size hl
  have g0 : (s.heap.push { cls := .type "list_iterator", data := .fields #[.ref x, .int 0 0] }).IsListIter s.heap.objs.size x 0 := ⟨_, Heap.get?_push_size _ rfl, rfl, rfl⟩
  have l0 : (s.heap.push { cls := .type "list_iterator", data := .fields #[.ref x, .int 0 0] }).IsList x (List.toArray [v1, v2]) := hL.push _
  have hne : x ≠ s.heap.objs.size := Nat.ne_of_lt xlt
  refine wpAny_bind (wpAny_holding ?_)
  show wpAny _ _ (pyNext (.ref s.heap.objs.size) >>= _) _ _ _
  refine wpAny_bind (wpAny_pyNext_list_item g0 l0 (x := v1) rfl fun h₁ g1 s1 => ?_)
  have l1 := l0.extBut s1.extBut hne
  refine wpAny_bind (wpAny_holding ?_)
  show wpAny _ _ (pyNext (.ref s.heap.objs.size) >>= _) _ _ _
  refine wpAny_bind (wpAny_pyNext_list_item g1 l1 (x := v2) rfl fun h₂ g2 s2 => ?_)
  have l2 := l1.extBut s2.extBut hne
  refine wpAny_bind (wpAny_holding (wpAny_pure (wpAny_pure (wpAny_pure ?_))))
  rw [if_neg (by simp)]
  refine wpAny_bind (wpAny_holding (wpAny_pyNext_list_end R.1 g2 l2 rfl fun h₃ he₃ => ?_))
  simp only [Option.isSome_none, Bool.false_eq_true, if_false]
  have K : ∀ b o, s.heap.get? b = some o → h₃.get? b = some o := fun b o e => by
    have hb : b ≠ s.heap.objs.size := Nat.ne_of_lt (Heap.lt_size e)
    exact he₃ b o hb (s2.extBut b o hb (s1.extBut b o hb (Heap.get?_push_of_some _ e)))
  refine wpAny_pure ?_
  exact wpAny_mono (h A P { s with heap := h₃ } [v1, v2] R (H.ext K) (F.keeps K) (.cons (V1.mono (.of K)) (.cons (V2.mono (.of K)) .nil))) (fun _ _ x => x.ext ⟨h₃, _, rfl⟩) fun _ _ x => x
end
end Mu
end
noncomputable section
open PySem PySem.W PySem.Calls PyProof.Rows
set_option Elab.async false
set_option maxRecDepth 100000
set_option maxHeartbeats 4000000
namespace Mu
theorem fill (P : Params) : nsIn (KK P) mainGlobals "int" = some none ∧ PySem.Challenge.rw_xm0659_01.prog = PySem.Challenge.rw_xm0659_01.prog := by
  k_fill
  exact ⟨by k_is, rfl⟩
section
variable {c : Cx} {P : Params} (hK : c.K = KK P)
include hK
theorem g_int : nsIn c.K mainGlobals "int" = some none := by rw [hK]; k_is
theorem g_len : nsIn c.K mainGlobals "len" = some none := by rw [hK]; k_is
theorem g_range : nsIn c.K mainGlobals "range" = some none := by rw [hK]; k_is
theorem g_min : nsIn c.K mainGlobals "min" = some none := by rw [hK]; k_is
theorem g_max : nsIn c.K mainGlobals "max" = some none := by rw [hK]; k_is
theorem g_dict : nsIn c.K mainGlobals "dict" = some none := by rw [hK]; k_is
theorem g_sorted : nsIn c.K mainGlobals "sorted" = some none := by rw [hK]; k_is
theorem g_list : nsIn c.K mainGlobals "list" = some none := by rw [hK]; k_is
theorem g_tuple : nsIn c.K mainGlobals "tuple" = some none := by rw [hK]; k_is
theorem g_zip : nsIn c.K mainGlobals "zip" = some none := by rw [hK]; k_is
theorem g_KIND : ∃ t, nsIn c.K mainGlobals "KIND" = some (some (.int 0 t)) := ⟨_, by rw [hK]; k_is⟩
theorem g_LABEL : ∃ t, nsIn c.K mainGlobals "LABEL" = some (some (.int 1 t)) := ⟨_, by rw [hK]; k_is⟩
theorem g_VALUE : ∃ t, nsIn c.K mainGlobals "VALUE" = some (some (.int 2 t)) := ⟨_, by rw [hK]; k_is⟩
theorem g_ATTRIBUTES : ∃ t, nsIn c.K mainGlobals "ATTRIBUTES" = some (some (.int 3 t)) := ⟨_, by rw [hK]; k_is⟩
theorem g_CHILDREN : ∃ t, nsIn c.K mainGlobals "CHILDREN" = some (some (.int 4 t)) := ⟨_, by rw [hK]; k_is⟩
theorem g_may_match : nsIn c.K mainGlobals "may_match" = some (some (.ref 28)) := by rw [hK]; k_is
theorem keep_28 : keepIn c.K (.ref 28) = true := by rw [hK]; k_is
theorem g_unlike_attributes : nsIn c.K mainGlobals "unlike_attributes" = some (some (.ref 33)) := by rw [hK]; k_is
theorem keep_33 : keepIn c.K (.ref 33) = true := by rw [hK]; k_is
theorem g_own_cost : nsIn c.K mainGlobals "own_cost" = some (some (.ref 40)) := by rw [hK]; k_is
theorem keep_40 : keepIn c.K (.ref 40) = true := by rw [hK]; k_is
theorem g_Matching : nsIn c.K mainGlobals "Matching" = some (some (.ref 85)) := by rw [hK]; k_is
theorem keep_85 : keepIn c.K (.ref 85) = true := by rw [hK]; k_is
theorem g_own_edits : nsIn c.K mainGlobals "own_edits" = some (some (.ref 96)) := by rw [hK]; k_is
theorem keep_96 : keepIn c.K (.ref 96) = true := by rw [hK]; k_is
theorem g_inner_tasks : nsIn c.K mainGlobals "inner_tasks" = some (some (.ref 103)) := by rw [hK]; k_is
theorem keep_103 : keepIn c.K (.ref 103) = true := by rw [hK]; k_is
theorem g_FlatForm : nsIn c.K mainGlobals "FlatForm" = some (some (.ref 148)) := by rw [hK]; k_is
theorem keep_148 : keepIn c.K (.ref 148) = true := by rw [hK]; k_is
theorem g__law_pool : nsIn c.K mainGlobals "_law_pool" = some (some (.ref 159)) := by rw [hK]; k_is
theorem keep_159 : keepIn c.K (.ref 159) = true := by rw [hK]; k_is
theorem g__law_take : nsIn c.K mainGlobals "_law_take" = some (some (.ref 166)) := by rw [hK]; k_is
theorem keep_166 : keepIn c.K (.ref 166) = true := by rw [hK]; k_is
theorem g__law_one : nsIn c.K mainGlobals "_law_one" = some (some (.ref 173)) := by rw [hK]; k_is
theorem keep_173 : keepIn c.K (.ref 173) = true := by rw [hK]; k_is
theorem g__law_element : nsIn c.K mainGlobals "_law_element" = some (some (.ref 180)) := by rw [hK]; k_is
theorem keep_180 : keepIn c.K (.ref 180) = true := by rw [hK]; k_is
theorem g__law_child : nsIn c.K mainGlobals "_law_child" = some (some (.ref 187)) := by rw [hK]; k_is
theorem keep_187 : keepIn c.K (.ref 187) = true := by rw [hK]; k_is
theorem g__law_tasks : nsIn c.K mainGlobals "_law_tasks" = some (some (.ref 194)) := by rw [hK]; k_is
theorem keep_194 : keepIn c.K (.ref 194) = true := by rw [hK]; k_is
theorem g__law_inner_right : nsIn c.K mainGlobals "_law_inner_right" = some (some (.ref 199)) := by rw [hK]; k_is
theorem keep_199 : keepIn c.K (.ref 199) = true := by rw [hK]; k_is
theorem g__law_own_right : nsIn c.K mainGlobals "_law_own_right" = some (some (.ref 204)) := by rw [hK]; k_is
theorem keep_204 : keepIn c.K (.ref 204) = true := by rw [hK]; k_is
theorem keep_54 : keepIn c.K (.ref 54) = true := by rw [hK]; k_is
theorem keep_61 : keepIn c.K (.ref 61) = true := by rw [hK]; k_is
theorem keep_68 : keepIn c.K (.ref 68) = true := by rw [hK]; k_is
theorem keep_117 : keepIn c.K (.ref 117) = true := by rw [hK]; k_is
theorem keep_124 : keepIn c.K (.ref 124) = true := by rw [hK]; k_is
theorem keep_131 : keepIn c.K (.ref 131) = true := by rw [hK]; k_is
theorem keep_138 : keepIn c.K (.ref 138) = true := by rw [hK]; k_is
theorem makes_85 : makesIn c.K 85 = true := by rw [hK]; k_is
theorem init_85 : findIn c.K (.ref 85) "__init__" = some (some (.ref 54)) := by rw [hK]; k_is
theorem initT_85 : typeIn c.K (.ref 54) = some (.type "function") := by rw [hK]; k_is
theorem hasd_85 : hasDictIn c.K 85 = true := by rw [hK]; k_is
theorem seta_85 : findIn c.K (.ref 85) "__setattr__" = some (some (.builtin "object.__setattr__")) := by rw [hK]; k_is
theorem over_85 : plainOver c.K 85 = true := by rw [hK]; k_is
theorem makes_148 : makesIn c.K 148 = true := by rw [hK]; k_is
theorem init_148 : findIn c.K (.ref 148) "__init__" = some (some (.ref 117)) := by rw [hK]; k_is
theorem initT_148 : typeIn c.K (.ref 117) = some (.type "function") := by rw [hK]; k_is
theorem hasd_148 : hasDictIn c.K 148 = true := by rw [hK]; k_is
theorem seta_148 : findIn c.K (.ref 148) "__setattr__" = some (some (.builtin "object.__setattr__")) := by rw [hK]; k_is
theorem over_148 : plainOver c.K 148 = true := by rw [hK]; k_is
theorem tak_85_one : takerIn c.K 85 "one" = some none := by rw [hK]; k_is
theorem fnd_85_one : findIn c.K (.ref 85) "one" = some none := by rw [hK]; k_is
theorem get_85_one : plainGet c.K 85 "one" = true := by rw [hK]; k_is
theorem tak_85_other : takerIn c.K 85 "other" = some none := by rw [hK]; k_is
theorem fnd_85_other : findIn c.K (.ref 85) "other" = some none := by rw [hK]; k_is
theorem get_85_other : plainGet c.K 85 "other" = true := by rw [hK]; k_is
theorem tak_85_costs : takerIn c.K 85 "costs" = some none := by rw [hK]; k_is
theorem fnd_85_costs : findIn c.K (.ref 85) "costs" = some none := by rw [hK]; k_is
theorem get_85_costs : plainGet c.K 85 "costs" = true := by rw [hK]; k_is
theorem tak_148_forms : takerIn c.K 148 "forms" = some none := by rw [hK]; k_is
theorem fnd_148_forms : findIn c.K (.ref 148) "forms" = some none := by rw [hK]; k_is
theorem get_148_forms : plainGet c.K 148 "forms" = true := by rw [hK]; k_is
theorem tak_148_children : takerIn c.K 148 "children" = some none := by rw [hK]; k_is
theorem fnd_148_children : findIn c.K (.ref 148) "children" = some none := by rw [hK]; k_is
theorem get_148_children : plainGet c.K 148 "children" = true := by rw [hK]; k_is
theorem tak_148_sizes : takerIn c.K 148 "sizes" = some none := by rw [hK]; k_is
theorem fnd_148_sizes : findIn c.K (.ref 148) "sizes" = some none := by rw [hK]; k_is
theorem get_148_sizes : plainGet c.K 148 "sizes" = true := by rw [hK]; k_is
theorem tak_148_parents : takerIn c.K 148 "parents" = some none := by rw [hK]; k_is
theorem fnd_148_parents : findIn c.K (.ref 148) "parents" = some none := by rw [hK]; k_is
theorem get_148_parents : plainGet c.K 148 "parents" = true := by rw [hK]; k_is
theorem tak_148_places : takerIn c.K 148 "places" = some none := by rw [hK]; k_is
theorem fnd_148_places : findIn c.K (.ref 148) "places" = some none := by rw [hK]; k_is
theorem get_148_places : plainGet c.K 148 "places" = true := by rw [hK]; k_is
theorem fnd_85_table : findIn c.K (.ref 85) "table" = some (some (.ref 61)) := by rw [hK]; k_is
theorem get_85_table : plainGet c.K 85 "table" = true := by rw [hK]; k_is
theorem isf_61 : isFn c.K (.ref 61) = true := by rw [hK]; k_is
theorem fnd_85_steps : findIn c.K (.ref 85) "steps" = some (some (.ref 68)) := by rw [hK]; k_is
theorem get_85_steps : plainGet c.K 85 "steps" = true := by rw [hK]; k_is
theorem isf_68 : isFn c.K (.ref 68) = true := by rw [hK]; k_is
theorem fnd_148_gather : findIn c.K (.ref 148) "gather" = some (some (.ref 124)) := by rw [hK]; k_is
theorem get_148_gather : plainGet c.K 148 "gather" = true := by rw [hK]; k_is
theorem isf_124 : isFn c.K (.ref 124) = true := by rw [hK]; k_is
theorem fnd_148_measure : findIn c.K (.ref 148) "measure" = some (some (.ref 131)) := by rw [hK]; k_is
theorem get_148_measure : plainGet c.K 148 "measure" = true := by rw [hK]; k_is
theorem isf_131 : isFn c.K (.ref 131) = true := by rw [hK]; k_is
theorem fnd_148_top : findIn c.K (.ref 148) "top" = some (some (.ref 138)) := by rw [hK]; k_is
theorem get_148_top : plainGet c.K 148 "top" = true := by rw [hK]; k_is
theorem isf_138 : isFn c.K (.ref 138) = true := by rw [hK]; k_is
theorem noGet0 : noGet c.K none = true := by rw [hK]; k_is
end
end Mu
end
noncomputable section
open PySem PySem.W PySem.Calls PyProof.Rows
set_option Elab.async false
set_option linter.unusedVariables false
set_option maxRecDepth 100000
set_option maxHeartbeats 4000000
namespace Mu
theorem allNil {p : Str → Prop} : ∀ x ∈ ([] : List Str), p x := fun _ h => nomatch h
theorem allCons {p : Str → Prop} {a : Str} {l : List Str} (h1 : p a) (h2 : ∀ x ∈ l, p x) : ∀ x ∈ a :: l, p x := List.forall_mem_cons.mpr ⟨h1, h2⟩
section
variable {c : Cx} {N : Nat} {ow : List Addr} {env : Env} {st : St}
theorem Ev_gintX {x : Str} {i : Int} {pos} {k : AV → St → Prop} (hg : ∃ t, nsIn c.K mainGlobals x = some (some (.int i t))) (ok : EnvOk env) (hl : env.kindOf x = some .globalImplicit) (h : k (.int i) st) (hd : (x == ("__debug__" : Str)) = false := by decide) :
    Ev c N ow env (eval (.Name x pos) env) k st := let ⟨_, e⟩ := hg; Ev_gint ok hl e h hd
theorem Cal.le {f : Value} {args : List AV} {k : AV → AH → Prop} {hp : AH} {N N' : Nat} (h : Cal c N f args k hp) (hN : N ≤ N') : Cal c N' f args k hp := fun A P s vs R => h A P s vs (R.le hN)
end
section
variable {c : Cx} {P : Params} (hK : c.K = KK P)
include hK

theorem may_match_ {N : Nat} {a b : List AV} {x0 x1 y0 y1 : AV} {k : AV → AH → Prop} {hp : AH} (ha : a.length ≤ 1000) (hb : b.length ≤ 1000) (a0 : a[0]? = some x0) (a1 : a[1]? = some x1) (b0 : b[0]? = some y0) (b1 : b[1]? = some y1)
    (d1 : dOk 10 x0 = true) (d2 : dOk 10 x1 = true) (d3 : dOk 10 y0 = true) (d4 : dOk 10 y1 = true) (h : k (.bool (aeq x0 y0 && aeq x1 y1)) hp) : Cal c (N + 1) (.ref 28) [.tup a, .tup b] k hp := by
  refine Cal_fn (⟨⟨_, _, _, by rw [hK]; k_is⟩, by rw [hK]; k_is, by exact rfl, rfl, rfl, rfl, (by intro vs hv; obtain ⟨_, vs1, rfl, hv1⟩ := vlenS (n := 1) hv; obtain ⟨_, vs2, rfl, hv2⟩ := vlenS (n := 0) hv1; obtain rfl := vlen0 hv2; rfl), (by decide), allCons (by first | exact .inl rfl | exact .inr ⟨rfl, fun _ => rfl⟩) <| allCons (by first | exact .inl rfl | exact .inr ⟨rfl, fun _ => rfl⟩) <| allNil, rfl, rfl, rfl⟩ : Fn c 28 ⟨_, _, ⟨_, _, _, _, _, _, _⟩, .stmts (_ :: _), ⟨_, _, _, _, _⟩, _, _, _, _, _, _, _, _, _, _⟩ (_ :: _) ["one", "other"]) rfl fun L hL => ?_
  refine Ex_cons (Ex_Return (Ev_And2 (Ev_Compare ?_)))
  refine Ev_Sub (Ev_loc ⟨rfl, rfl, rfl⟩ rfl rfl (Ev_gintX (g_KIND hK) ⟨rfl, rfl, rfl⟩ rfl (Op_subT (by decide) ha a0 ?_)))
  refine Ev_Sub (Ev_loc ⟨rfl, rfl, rfl⟩ rfl rfl (Ev_gintX (g_KIND hK) ⟨rfl, rfl, rfl⟩ rfl (Op_subT (by decide) hb b0 ?_)))
  refine Op_eq d1 d3 ⟨_, rfl, fun e => ?_, fun e => ?_⟩
  · show k (.bool (aeq x0 y0)) hp
    rw [e] at h ⊢; exact h
  refine Ev_Compare ?_
  refine Ev_Sub (Ev_loc ⟨rfl, rfl, rfl⟩ rfl rfl (Ev_gintX (g_LABEL hK) ⟨rfl, rfl, rfl⟩ rfl (Op_subT (by decide) ha a1 ?_)))
  refine Ev_Sub (Ev_loc ⟨rfl, rfl, rfl⟩ rfl rfl (Ev_gintX (g_LABEL hK) ⟨rfl, rfl, rfl⟩ rfl (Op_subT (by decide) hb b1 ?_)))
  refine Op_eq d2 d4 ?_
  show k (.bool (aeq x1 y1)) hp
  rw [e] at h; exact h
end
end Mu
end
noncomputable section
open PySem PySem.W PySem.Calls PyProof.Rows
set_option Elab.async false
set_option linter.unusedVariables false
set_option maxRecDepth 100000
set_option maxHeartbeats 4000000
namespace Mu

/-- the known objects are kept -/
def Grow (hp hp' : AH) : Prop := ∀ b o, hp b = some o → hp' b = some o
theorem Grow.refl (hp : AH) : Grow hp hp := fun _ _ e => e
theorem Grow.trans {a b d : AH} (h : Grow a b) (k : Grow b d) : Grow a d := fun x o e => k x o (h x o e)
theorem Grow.new {hp : AH} {x : Addr} {o : AO} (h : hp x = none) : Grow hp (upd hp x o) := fun b ob e => by
  rw [upd_ne (fun q => by rw [q, h] at e; cases e)]; exact e
theorem Grow.thenNew {hp₀ hp : AH} {x : Addr} {o : AO} (g : Grow hp₀ hp) (h : hp x = none) : Grow hp₀ (upd hp x o) := g.trans (.new h)
theorem Grow.gone {hp hp' : AH} (g : Grow hp hp') {x : Addr} (h : hp' x = none) : hp x = none := by
  cases q : hp x with
  | none => rfl
  | some o => rw [g x o q] at h; cases h
theorem Grow.thenUpd {hp₀ hp : AH} {x : Addr} {o : AO} (g : Grow hp₀ hp) (h : hp₀ x = none) : Grow hp₀ (upd hp x o) := fun b ob e => by
  rw [upd_ne (fun q => by rw [q, h] at e; cases e)]; exact g b ob e
theorem ne_at {q : AH} {x y : Addr} {o : AO} (h : q x = some o) (h' : q y = none) : x ≠ y := fun e => by rw [e, h'] at h; cases h
theorem upd_off {hp : AH} {x y : Addr} {o o' : AO} (h : hp x = some o) (hy : x ≠ y) : upd hp y o' x = some o := (upd_ne hy).trans h
theorem cells1 {n : Str} {a : Addr} {y : Str} {cx : Addr} (e : List.lookup y [(n, a)] = some cx) : y = n := by
  rw [List.lookup_cons] at e
  cases q : y == n with
  | true => exact beq_iff_eq.mp q
  | false => rw [q] at e; cases e

abbrev Row := List Str × Str × Str
def rowAV (r : Row) : AV := .tup [aS r.1, .str r.2.1, .str r.2.2]
def rowNV (r : Row) : AV := .tup [.str r.2.1, .str r.2.2]
def rowsD (rs : List Row) : List (List Str × AV) := dputs [] (rs.map fun r => (r.1, rowNV r))
/-- one finding -/
def finding (first second : List (List Str × AV)) (key : List Str) : List AV := match dget second key with
  | none => [.tup [aS key, .none, .none]]
  | some b => if aeq ((dget first key).getD .none) b then [] else match b with
    | .tup (x :: y :: _) => [.tup [aS key, x, y]]
    | _ => []
def unKeys (ra rb : List Row) : List (List Str) := (rowsD ra).map (·.1) ++ ((rowsD rb).map (·.1)).filter fun k => (dget (rowsD ra) k).isNone
def unlike (ra rb : List Row) : List AV := (sortKs (unKeys ra rb)).flatMap (finding (rowsD ra) (rowsD rb))

theorem take_map {α β : Type} {f : α → β} {l : List α} {i : Nat} (h : i < l.length) : (l.take (i + 1)).map f = (l.take i).map f ++ [f l[i]] := by
  rw [List.take_succ_eq_append_getElem h, List.map_append]; rfl
theorem getD_map {α : Type} {f : α → AV} {l : List α} {i : Nat} (h : i < l.length) : (l.map f).getD i .none = f l[i] := by
  rw [List.getD_eq_getElem?_getD, List.getElem?_map, List.getElem?_eq_getElem h]; rfl
section
variable {c : Cx} {N : Nat} {ow : List Addr} {env : Env} {st : St}
theorem Un1_of {t : Value → Sem Unit} {a a' : AV} {k : St → Prop} (e : a = a') (h : Un1 c N ow env t a' k st) : Un1 c N ow env t a k st := e ▸ h
end
theorem map_pair {rs : List Row} : (rs.map fun r => pairAV (r.1, rowNV r)) = (rs.map fun r => (r.1, rowNV r)).map pairAV := by rw [List.map_map]; rfl
theorem upd_at {hp : AH} {x y : Addr} {o o' : AO} (h : hp x = some o) (hy : hp y = none) : upd hp y o' x = some o := (Grow.new hy) x o h

def rowsOk (rs : List Row) : Bool := rs.all fun r => PyData.strOk r.2.1 && PyData.strOk r.2.2
theorem dget_mem {κ : Type} [DecidableEq κ] {es : List (κ × AV)} {k : κ} {a : AV} (h : dget es k = some a) : ∃ p ∈ es, p.2 = a := by
  unfold dget at h
  obtain ⟨p, h1, h2⟩ := Option.map_eq_some_iff.mp h
  exact ⟨p, List.mem_of_find?_eq_some h1, h2⟩
theorem dput_mem {es : List (List Str × AV)} {k : List Str} {a : AV} {p : List Str × AV} (h : p ∈ dput es k a) : p ∈ es ∨ p.2 = a := by
  unfold dput at h
  split at h
  · obtain ⟨q, h1, h2⟩ := List.mem_map.mp h
    split at h2
    · exact .inr (h2 ▸ rfl)
    · exact .inl (h2 ▸ h1)
  · rcases List.mem_append.mp h with q | q
    · exact .inl q
    · exact .inr (by rw [List.mem_singleton.mp q])
theorem dputs_mem : ∀ {ps es : List (List Str × AV)} {p : List Str × AV}, p ∈ dputs es ps → p ∈ es ∨ ∃ q ∈ ps, p.2 = q.2
  | [], _, _, h => .inl h
  | q :: r, es, p, h => by
    rcases dputs_mem (ps := r) h with h | ⟨q', h1, h2⟩
    · rcases dput_mem h with h | h
      · exact .inl h
      · exact .inr ⟨q, .head _, h⟩
    · exact .inr ⟨q', .tail _ h1, h2⟩
theorem rowsD_get {rs : List Row} {k : List Str} {a : AV} (h : dget (rowsD rs) k = some a) : ∃ r ∈ rs, a = rowNV r := by
  obtain ⟨p, h1, h2⟩ := dget_mem h
  rcases dputs_mem h1 with h | ⟨q, h3, h4⟩
  · cases h
  · obtain ⟨r, h5, rfl⟩ := List.mem_map.mp h3
    exact ⟨r, h5, h2 ▸ h4⟩
theorem rowNV_ok {rs : List Row} (ho : rowsOk rs = true) {r : Row} (hr : r ∈ rs) (n : Nat) : dOk (n + 1) (rowNV r) = true := by
  have := List.all_eq_true.mp ho r hr
  simp only [Bool.and_eq_true] at this
  cases n <;> simp [rowNV, dOk, this.1, this.2]
theorem finding_len (f g : List (List Str × AV)) (k : List Str) : (finding f g k).length ≤ 1 := by
  unfold finding
  split
  · simp
  · split
    · simp
    · split <;> simp
theorem flat_len (f g : List (List Str × AV)) : ∀ l : List (List Str), (l.flatMap (finding f g)).length ≤ l.length
  | [] => Nat.le_refl _
  | k :: l => by
    rw [List.flatMap_cons, List.length_append, List.length_cons]
    have := finding_len f g k
    have := flat_len f g l
    omega
theorem take_flat {f g : List (List Str × AV)} {l : List (List Str)} {i : Nat} (h : i < l.length) : (l.take (i + 1)).flatMap (finding f g) = (l.take i).flatMap (finding f g) ++ finding f g l[i] := by
  rw [List.take_succ_eq_append_getElem h, List.flatMap_append]; simp
theorem kasRun_len {n : Nat} {f : Nat → Nat → Bool} : ∀ {t : KasT (Array Nat)}, kasIn n t = true → (kasRun f t).toList.length ≤ n
  | .ret a, hk => by
    simp only [kasIn, Bool.and_eq_true, decide_eq_true_eq] at hk
    exact hk.1
  | .ask i j k, hk => by
    simp only [kasIn, Bool.and_eq_true, decide_eq_true_eq] at hk
    show (kasRun f (k (f i j))).toList.length ≤ n
    cases f i j with
    | true => exact kasRun_len hk.1.2
    | false => exact kasRun_len hk.2
theorem sortKs_len {ks : List (List Str)} (h : ks.length ≤ 3) : (sortKs ks).length ≤ 3 := by
  unfold sortKs
  split
  · exact h
  · rw [List.length_map]
    refine Nat.le_trans (kasRun_len ?_) h
    have : ks.length = 2 ∨ ks.length = 3 := by omega
    rcases this with e | e <;> rw [e]
    · exact kasIn2
    · exact kasIn3
theorem finding_none {f g : List (List Str × AV)} {k : List Str} (h : dget g k = none) : finding f g k = [.tup [aS k, .none, .none]] := by unfold finding; rw [h]
theorem finding_same {f g : List (List Str × AV)} {k : List Str} {b : AV} (h : dget g k = some b) (e : aeq ((dget f k).getD .none) b = true) : finding f g k = [] := by unfold finding; rw [h]; dsimp only; rw [if_pos e]
theorem finding_diff {f g : List (List Str × AV)} {k : List Str} {r : Row} (h : dget g k = some (rowNV r)) (e : aeq ((dget f k).getD .none) (rowNV r) = false) : finding f g k = [.tup [aS k, .str r.2.1, .str r.2.2]] := by
  unfold finding; rw [h]; dsimp only; rw [if_neg (by rw [e]; exact Bool.false_ne_true)]; rfl
theorem getD_ok {rs : List Row} (ho : rowsOk rs = true) (k : List Str) : dOk 10 ((dget (rowsD rs) k).getD .none) = true := by
  cases q : dget (rowsD rs) k with
  | none => rfl
  | some a =>
    obtain ⟨r, hr, rfl⟩ := rowsD_get q
    exact rowNV_ok ho hr 9
theorem unKeys_map (ra rb : List Row) : (unKeys ra rb).map aS = ((rowsD ra).map fun p => aS p.1) ++ (((rowsD rb).map (·.1)).filter fun k => (dget (rowsD ra) k).isNone).map aS := by
  unfold unKeys; rw [List.map_append, List.map_map]; rfl
section
variable {c : Cx} {P : Params} (hK : c.K = KK P)
include hK

theorem unlike_ {N : Nat} {a b : List AV} {ra rb : List Row} {k : AV → AH → Prop} {hp : AH} (ha : a.length ≤ 1000) (hb : b.length ≤ 1000) (a3 : a[3]? = some (.tup (ra.map rowAV))) (b3 : b[3]? = some (.tup (rb.map rowAV)))
    (la : ra.length ≤ 1000) (lb : rb.length ≤ 1000) (oa : rowsOk ra = true) (ob : rowsOk rb = true) (h3 : (unKeys ra rb).length ≤ 3) (hne : ∀ k ∈ unKeys ra rb, k ≠ [])
    (h : ∀ x hp', Grow hp hp' → hp x = none → hp' x = some (.list (unlike ra rb)) → k (.ref x) hp') : Cal c (N + 1) (.ref 33) [.tup a, .tup b] k hp := by
  refine Cal_fn (⟨⟨_, _, _, by rw [hK]; k_is⟩, by rw [hK]; k_is, by exact rfl, rfl, rfl, rfl, (by intro vs hv; obtain ⟨_, vs1, rfl, hv1⟩ := vlenS (n := 1) hv; obtain ⟨_, vs2, rfl, hv2⟩ := vlenS (n := 0) hv1; obtain rfl := vlen0 hv2; rfl), (by decide), allCons (by first | exact .inl rfl | exact .inr ⟨rfl, fun _ => rfl⟩) <| allCons (by first | exact .inl rfl | exact .inr ⟨rfl, fun _ => rfl⟩) <| allNil, rfl, rfl, rfl⟩ : Fn c 33 ⟨_, _, ⟨_, _, _, _, _, _, _⟩, .stmts (_ :: _), ⟨_, _, _, _, _⟩, _, _, _, _, _, _, _, _, _, _⟩ (_ :: _) ["one", "other"]) rfl fun L hL => ?_
  refine Ex_cons (Ex_Assign ?_)
  refine Ev_CallB ⟨rfl, rfl, rfl⟩ rfl (g_dict hK) rfl rfl ?_
  refine Evs_cons (Ev_ListComp (xs := []) ⟨rfl, rfl, rfl⟩ (Src_tuple ?_))
  refine Ev_Sub (Ev_loc ⟨rfl, rfl, rfl⟩ rfl rfl (Ev_gintX (g_ATTRIBUTES hK) ⟨rfl, rfl, rfl⟩ rfl (Op_subT (by decide) ha a3 ?_)))
  refine ⟨_, rfl, by rw [List.length_map]; omega, fun C hC hCL => ⟨fun i acc st => st.hp = hp ∧ acc = (ra.take i).map fun r => pairAV (r.1, rowNV r), ⟨rfl, by simp⟩, fun i acc st hi ⟨e1, e2⟩ => ⟨trivial, ?_⟩, fun acc st ⟨e1, e2⟩ => ⟨trivial, fun D1 hD1 => Evs_nil ?_⟩⟩⟩
  · rw [List.length_map] at hi
    refine Un1_of (getD_map hi) ?_
    refine Un1_Tuple ?_
    refine UnL_cons ?_
    refine Un1_Name ?_
    refine Un_loc ⟨rfl, rfl, rfl⟩ rfl ?_
    refine UnL_cons ?_
    refine Un1_Name ?_
    refine Un_loc ⟨rfl, rfl, rfl⟩ rfl ?_
    refine UnL_cons ?_
    refine Un1_Name ?_
    refine Un_loc ⟨rfl, rfl, rfl⟩ rfl ?_
    refine UnL_nil ?_
    refine Ev_Tuple ?_
    refine Evs_cons ?_
    refine Ev_loc ⟨rfl, rfl, rfl⟩ rfl rfl ?_
    refine Evs_cons ?_
    refine Ev_Tuple ?_
    refine Evs_cons ?_
    refine Ev_loc ⟨rfl, rfl, rfl⟩ rfl rfl ?_
    refine Evs_cons ?_
    refine Ev_loc ⟨rfl, rfl, rfl⟩ rfl rfl ?_
    refine Evs_nil ?_
    refine ⟨by simp, ?_⟩
    refine Evs_nil ?_
    refine ⟨by simp, e1, ?_⟩
    show acc ++ [_] = _
    rw [e2, take_map hi]
    rfl
  rw [List.length_map, List.take_length, map_pair] at e2
  subst e2
  rw [e1] at hD1 ⊢
  refine Op_dictL upd_same fun D2 ep1 hD2 => ?_
  refine Un_cell ⟨rfl, rfl, rfl⟩ rfl rfl (by exact .head _) (fun y e => cells1 e) ?_
  refine Ex_cons (Ex_Assign ?_)
  refine Ev_CallB ⟨rfl, rfl, rfl⟩ rfl (g_dict hK) rfl rfl ?_
  refine Evs_cons (Ev_ListComp (xs := []) ⟨rfl, rfl, rfl⟩ (Src_tuple ?_))
  refine Ev_Sub (Ev_loc ⟨rfl, rfl, rfl⟩ rfl rfl (Ev_gintX (g_ATTRIBUTES hK) ⟨rfl, rfl, rfl⟩ rfl (Op_subT (by decide) hb b3 ?_)))
  have hD1' : hp D1 = none := hD1
  obtain ⟨hp1, hh1⟩ : ∃ h, upd (upd hp D1 (.list ((ra.map fun r => (r.1, rowNV r)).map pairAV))) D2 (.dictS (rowsD ra) ep1) = h := ⟨_, rfl⟩
  have G1 : Grow hp hp1 := by rw [← hh1]; exact ((Grow.refl hp).thenNew hD1').thenNew hD2
  have f1 : hp1 D2 = some (.dictS (rowsD ra) ep1) := by rw [← hh1]; exact upd_same
  refine ⟨_, rfl, by rw [List.length_map]; omega, fun C hC hCL => ⟨fun i acc st => st.hp = hp1 ∧ acc = (rb.take i).map fun r => pairAV (r.1, rowNV r), ⟨hh1, by simp⟩, fun i acc st hi ⟨e1, e2⟩ => ⟨trivial, ?_⟩, fun acc st ⟨e1, e2⟩ => ⟨trivial, fun D3 hD3 => Evs_nil ?_⟩⟩⟩
  · rw [List.length_map] at hi
    refine Un1_of (getD_map hi) ?_
    refine Un1_Tuple ?_
    refine UnL_cons ?_
    refine Un1_Name ?_
    refine Un_loc ⟨rfl, rfl, rfl⟩ rfl ?_
    refine UnL_cons ?_
    refine Un1_Name ?_
    refine Un_loc ⟨rfl, rfl, rfl⟩ rfl ?_
    refine UnL_cons ?_
    refine Un1_Name ?_
    refine Un_loc ⟨rfl, rfl, rfl⟩ rfl ?_
    refine UnL_nil ?_
    refine Ev_Tuple ?_
    refine Evs_cons ?_
    refine Ev_loc ⟨rfl, rfl, rfl⟩ rfl rfl ?_
    refine Evs_cons ?_
    refine Ev_Tuple ?_
    refine Evs_cons ?_
    refine Ev_loc ⟨rfl, rfl, rfl⟩ rfl rfl ?_
    refine Evs_cons ?_
    refine Ev_loc ⟨rfl, rfl, rfl⟩ rfl rfl ?_
    refine Evs_nil ?_
    refine ⟨by simp, ?_⟩
    refine Evs_nil ?_
    refine ⟨by simp, e1, ?_⟩
    show acc ++ [_] = _
    rw [e2, take_map hi]
    rfl
  rw [List.length_map, List.take_length, map_pair] at e2
  subst e2
  rw [e1] at hD3 ⊢
  refine Op_dictL upd_same fun D4 ep2 hD4 => ?_
  have hD3' : hp1 D3 = none := hD3
  refine Un_loc ⟨rfl, rfl, rfl⟩ rfl ?_
  refine Ex_cons ?_
  refine Ex_Assign ?_
  refine Ev_List ?_
  refine Evs_nil ?_
  refine ⟨by simp, fun D5 hD5 => ?_⟩
  refine Un_loc ⟨rfl, rfl, rfl⟩ rfl ?_
  have G2 := ((G1.thenNew hD3').thenNew hD4).thenNew (o := .list []) hD5
  have f1a := upd_at (o' := .dictS (rowsD rb) ep2) (upd_at (o' := .list ((rb.map fun r => (r.1, rowNV r)).map pairAV)) f1 hD3') hD4
  have f2a := upd_same (f := upd hp1 D3 (.list ((rb.map fun r => (r.1, rowNV r)).map pairAV))) (a := D4) (o := .dictS (rowsD rb) ep2)
  have n2 : D2 ≠ D5 := ne_at f1a hD5
  have n4 : D4 ≠ D5 := ne_at f2a hD5
  have hD5n : hp D5 = none := ((G1.thenNew hD3').thenNew hD4).gone hD5
  have f1 := upd_at (o' := .list []) f1a hD5
  have f2 := upd_at (o' := .list []) f2a hD5
  have f5 := upd_same (f := upd (upd hp1 D3 (.list ((rb.map fun r => (r.1, rowNV r)).map pairAV))) D4 (.dictS (rowsD rb) ep2)) (a := D5) (o := AO.list [])
  refine Ex_cons (Ex_For (Src_list ?_))
  refine Ev_CallB ⟨rfl, rfl, rfl⟩ rfl (g_sorted hK) rfl rfl ?_
  refine Evs_cons ?_
  refine Ev_BinOp ?_
  refine Ev_CallB ⟨rfl, rfl, rfl⟩ rfl (g_list hK) rfl rfl ?_
  refine Evs_cons ?_
  refine Ev_cell ⟨rfl, rfl, rfl⟩ rfl rfl ?_
  refine Evs_nil ?_
  refine Op_listKeys f1 fun D6 hD6 => ?_
  refine Ev_ListComp (xs := ["first"]) ⟨rfl, rfl, rfl⟩ (Src_keys ?_) (hcl := by intro p hp; rcases List.mem_singleton.mp hp with rfl; rfl) (hxs := by intro x hx; rcases List.mem_singleton.mp hx with rfl; exact ⟨rfl, rfl, rfl⟩)
  refine Ev_loc ⟨rfl, rfl, rfl⟩ rfl rfl ⟨D4, rowsD rb, ep2, rfl, upd_at f2 hD6, ?_⟩
  have lD : (rowsD rb).length ≤ 1000 := Nat.le_trans (dputs_len _ _) (by simpa using lb)
  refine ⟨Nat.le_trans lD (by decide), fun C hC hCL => ⟨fun i acc st => And3 (And5 (Grow hp st.hp) (st.hp D2 = some (.dictS (rowsD ra) ep1)) (st.hp D4 = some (.dictS (rowsD rb) ep2)) (st.hp D5 = some (.list [])) (st.hp D6 = some (.list ((rowsD ra).map fun p => aS p.1)))) (st.loc "first" = some (.ref D2)) (acc = ((((rowsD rb).map (·.1)).take i).filter fun k => (dget (rowsD ra) k).isNone).map aS),
    ⟨⟨G2.thenNew hD6, upd_at f1 hD6, upd_at f2 hD6, upd_at f5 hD6, upd_same⟩, rfl, by simp⟩, fun i acc st hi ⟨⟨g0, g2, g4, g5, g6⟩, e2, e3⟩ => ⟨g4, ?_⟩, fun acc st ⟨⟨g0, g2, g4, g5, g6⟩, e2, e3⟩ => ⟨g4, fun D7 hD7 => ?_⟩⟩⟩
  · have hi' : i < ((rowsD rb).map (·.1)).length := by rw [List.length_map]; exact hi
    have eg : ((rowsD rb).map (·.1)).getD i [] = ((rowsD rb).map (·.1))[i] := by rw [List.getD_eq_getElem?_getD, List.getElem?_eq_getElem hi']; rfl
    refine Un1_of (congrArg aS eg) ?_
    refine Un1_Name ?_
    refine Un_loc ⟨rfl, rfl, rfl⟩ rfl ?_
    generalize ((rowsD rb).map (·.1))[i] = key at eg
    have et : ((rowsD rb).map (·.1)).take (i + 1) = ((rowsD rb).map (·.1)).take i ++ [key] := by
      rw [List.take_succ_eq_append_getElem hi']
      have e' : ((rowsD rb).map (·.1)).getD i [] = ((rowsD rb).map (·.1))[i] := by rw [List.getD_eq_getElem?_getD, List.getElem?_eq_getElem hi']; rfl
      rw [← e', eg]
    refine Tst_Compare (Ev_loc ⟨rfl, rfl, rfl⟩ rfl rfl (Ev_cell ⟨rfl, rfl, rfl⟩ rfl e2 (Op_notInS g2 ⟨_, rfl, fun hb => ?_, fun hb => ?_⟩)))
    · refine Ev_loc ⟨rfl, rfl, rfl⟩ rfl rfl ⟨⟨g0, g2, g4, g5, g6⟩, e2, ?_⟩
      show acc ++ [_] = _
      have : (dget (rowsD ra) key).isNone = true := by cases q : dget (rowsD ra) key <;> rw [q] at hb <;> first | rfl | cases hb
      rw [e3, et, List.filter_append, List.map_append]
      simp [this]
    · refine ⟨⟨g0, g2, g4, g5, g6⟩, e2, ?_⟩
      show acc = _
      have : (dget (rowsD ra) key).isNone = false := by cases q : dget (rowsD ra) key <;> rw [q] at hb <;> first | rfl | cases hb
      rw [e3, et, List.filter_append, List.map_append]
      simp [this]
  rw [List.take_of_length_le (by rw [List.length_map]; exact Nat.le_refl _)] at e3
  subst e3
  refine Op_addL (upd_at g6 hD7) upd_same (by
    have := congrArg List.length (unKeys_map ra rb)
    rw [List.length_map, List.length_append] at this
    omega) fun D8 hD8 => Evs_nil ?_
  rw [← unKeys_map]
  refine Op_sortedS upd_same h3 hne fun D9 hD9 => ?_
  have g0 := ((g0.thenNew hD7).thenNew hD8).thenNew hD9 (o := .list ((sortKs (unKeys ra rb)).map aS))
  have g2 := upd_at (o' := .list ((sortKs (unKeys ra rb)).map aS)) (upd_at (upd_at g2 hD7) hD8) hD9
  have g4 := upd_at (o' := .list ((sortKs (unKeys ra rb)).map aS)) (upd_at (upd_at g4 hD7) hD8) hD9
  have g5 := upd_at (o' := .list ((sortKs (unKeys ra rb)).map aS)) (upd_at (upd_at g5 hD7) hD8) hD9
  have n9 : D9 ≠ D5 := (ne_at (upd_at (upd_at (by assumption) hD7) hD8) hD9).symm
  refine ⟨D9, _, rfl, upd_same, fun i st => And4 (And5 (Grow hp st.hp) (st.hp D2 = some (.dictS (rowsD ra) ep1)) (st.hp D4 = some (.dictS (rowsD rb) ep2)) (st.hp D5 = some (.list (((sortKs (unKeys ra rb)).take i).flatMap (finding (rowsD ra) (rowsD rb))))) (st.hp D9 = some (.list ((sortKs (unKeys ra rb)).map aS)))) (st.loc "first" = some (.ref D2)) (st.loc "second" = some (.ref D4)) (st.loc "found" = some (.ref D5)), ⟨⟨g0, g2, g4, g5, upd_same⟩, rfl, rfl, rfl⟩, fun i st hi ⟨⟨q0, q2, q4, q5, q9⟩, l1, l2, l3⟩ => ⟨q9, ?_⟩, fun st ⟨⟨q0, q2, q4, q5, q9⟩, l1, l2, l3⟩ => ⟨q9, ?_⟩⟩
  · rw [List.length_map] at hi
    refine Un1_of (getD_map hi) ?_
    refine Un1_Name ?_
    refine Un_loc ⟨rfl, rfl, rfl⟩ rfl ?_
    have et := take_flat (f := rowsD ra) (g := rowsD rb) hi
    generalize (sortKs (unKeys ra rb))[i] = key at et
    have hlt : (((sortKs (unKeys ra rb)).take i).flatMap (finding (rowsD ra) (rowsD rb))).length < 100000 := by
      have h1 := flat_len (rowsD ra) (rowsD rb) ((sortKs (unKeys ra rb)).take i)
      have h2 : ((sortKs (unKeys ra rb)).take i).length ≤ 3 := by
        have := sortKs_len h3
        rw [List.length_take]; omega
      omega
    refine Ex_cons (Ex_If (Tst_Compare (Ev_loc ⟨rfl, rfl, rfl⟩ rfl rfl (Ev_loc ⟨rfl, rfl, rfl⟩ rfl l2 (Op_notInS q4 ⟨_, rfl, fun hb => ?_, fun hb => ?_⟩)))))
    · have eb : dget (rowsD rb) key = none := by cases q : dget (rowsD rb) key <;> rw [q] at hb <;> first | rfl | cases hb
      rw [finding_none eb] at et
      refine Ex_cons (Ex_Expr (Ev_Meth (Ev_loc ⟨rfl, rfl, rfl⟩ rfl l3 ⟨_, Mth_append q5, fun h _ => plainF_keeps rfl h, ?_⟩)))
      refine Evs_cons ?_
      refine Ev_Tuple ?_
      refine Evs_cons ?_
      refine Ev_loc ⟨rfl, rfl, rfl⟩ rfl rfl ?_
      refine Evs_cons ?_
      refine Ev_none ?_
      refine Evs_cons ?_
      refine Ev_none ?_
      refine Evs_nil ?_
      refine ⟨by simp, Evs_nil (Op_append q5 hlt ⟨rfl, Ex_nil (Ex_nil ?_)⟩)⟩
      exact ⟨⟨q0.thenUpd hD5n, upd_off q2 n2, upd_off q4 n4, by rw [et]; exact upd_same, upd_off q9 n9⟩, l1, l2, l3⟩
    · obtain ⟨b, eb⟩ : ∃ b, dget (rowsD rb) key = some b := by cases q : dget (rowsD rb) key <;> rw [q] at hb <;> first | exact ⟨_, rfl⟩ | cases hb
      obtain ⟨r, hr, rfl⟩ := rowsD_get eb
      refine Ex_cons (Ex_If (Tst_Compare (Ev_Meth (Ev_cell ⟨rfl, rfl, rfl⟩ rfl l1 ⟨_, Mth_getS q2, fun h _ => plainF_keeps rfl h, ?_⟩))))
      refine Evs_cons ?_
      refine Ev_loc ⟨rfl, rfl, rfl⟩ rfl rfl ?_
      refine Evs_nil ?_
      refine Op_getS q2 ?_
      refine Ev_Sub ?_
      refine Ev_loc ⟨rfl, rfl, rfl⟩ rfl l2 ?_
      refine Ev_loc ⟨rfl, rfl, rfl⟩ rfl rfl ?_
      refine Op_subS q4 eb ?_
      refine Op_ne (getD_ok oa key) (rowNV_ok ob hr 9) ⟨_, rfl, fun hc => ?_, fun hc => ?_⟩
      · rw [finding_diff eb (by simpa using hc)] at et
        refine Ex_cons (Ex_Expr (Ev_Meth (Ev_loc ⟨rfl, rfl, rfl⟩ rfl l3 ⟨_, Mth_append q5, fun h _ => plainF_keeps rfl h, ?_⟩)))
        refine Evs_cons ?_
        refine Ev_Tuple ?_
        refine Evs_cons ?_
        refine Ev_loc ⟨rfl, rfl, rfl⟩ rfl rfl ?_
        refine Evs_cons ?_
        refine Ev_Sub ?_
        refine Ev_Sub ?_
        refine Ev_loc ⟨rfl, rfl, rfl⟩ rfl l2 ?_
        refine Ev_loc ⟨rfl, rfl, rfl⟩ rfl rfl ?_
        refine Op_subS q4 eb ?_
        refine Ev_int ?_
        refine Op_subT (by decide) (by simp) rfl ?_
        refine Evs_cons ?_
        refine Ev_Sub ?_
        refine Ev_Sub ?_
        refine Ev_loc ⟨rfl, rfl, rfl⟩ rfl l2 ?_
        refine Ev_loc ⟨rfl, rfl, rfl⟩ rfl rfl ?_
        refine Op_subS q4 eb ?_
        refine Ev_int ?_
        refine Op_subT (by decide) (by simp) rfl ?_
        refine Evs_nil ?_
        refine ⟨by simp, Evs_nil (Op_append q5 hlt ⟨rfl, Ex_nil (Ex_nil (Ex_nil ?_))⟩)⟩
        exact ⟨⟨q0.thenUpd hD5n, upd_off q2 n2, upd_off q4 n4, by rw [et]; exact upd_same, upd_off q9 n9⟩, l1, l2, l3⟩
      · rw [finding_same eb (by simpa using hc), List.append_nil] at et
        refine Ex_nil (Ex_nil (Ex_nil ?_))
        exact ⟨⟨q0, q2, q4, by rw [et]; exact q5, q9⟩, l1, l2, l3⟩
  · rw [List.length_map, List.take_length] at q5
    refine Ex_cons (Ex_Return (Ev_loc ⟨rfl, rfl, rfl⟩ rfl l3 ?_))
    exact h D5 _ q0 hD5n q5
end
end Mu
end
noncomputable section
open PySem PySem.W PySem.Calls PyProof.Rows
set_option Elab.async false
set_option linter.unusedVariables false
set_option maxRecDepth 100000
set_option maxHeartbeats 4000000
namespace Mu
section
variable {c : Cx} {P : Params} (hK : c.K = KK P)
include hK

theorem own_cost_ {N : Nat} {a b : List AV} {ra rb : List Row} {x2 y2 : AV} {k : AV → AH → Prop} {hp : AH} (ha : a.length ≤ 1000) (hb : b.length ≤ 1000) (a3 : a[3]? = some (.tup (ra.map rowAV))) (b3 : b[3]? = some (.tup (rb.map rowAV)))
    (a2 : a[2]? = some x2) (b2 : b[2]? = some y2) (d1 : dOk 10 x2 = true) (d2 : dOk 10 y2 = true)
    (la : ra.length ≤ 1000) (lb : rb.length ≤ 1000) (oa : rowsOk ra = true) (ob : rowsOk rb = true) (h3 : (unKeys ra rb).length ≤ 3) (hne : ∀ k ∈ unKeys ra rb, k ≠ [])
    (h : ∀ hp', Grow hp hp' → k (.int ((if aeq x2 y2 = true then 0 else 1) + (unlike ra rb).length)) hp') : Cal c (N + 2) (.ref 40) [.tup a, .tup b] k hp := by
  refine Cal_fn (⟨⟨_, _, _, by rw [hK]; k_is⟩, by rw [hK]; k_is, by exact rfl, rfl, rfl, rfl, (by intro vs hv; obtain ⟨_, vs1, rfl, hv1⟩ := vlenS (n := 1) hv; obtain ⟨_, vs2, rfl, hv2⟩ := vlenS (n := 0) hv1; obtain rfl := vlen0 hv2; rfl), (by decide), allCons (by first | exact .inl rfl | exact .inr ⟨rfl, fun _ => rfl⟩) <| allCons (by first | exact .inl rfl | exact .inr ⟨rfl, fun _ => rfl⟩) <| allNil, rfl, rfl, rfl⟩ : Fn c 40 ⟨_, _, ⟨_, _, _, _, _, _, _⟩, .stmts (_ :: _), ⟨_, _, _, _, _⟩, _, _, _, _, _, _, _, _, _, _⟩ (_ :: _) ["one", "other"]) rfl fun L hL => ?_
  refine Ex_cons ?_
  refine Ex_Return ?_
  refine Ev_BinOp ?_
  refine Ev_CallB ⟨rfl, rfl, rfl⟩ rfl (g_int hK) rfl rfl ?_
  refine Evs_cons ?_
  refine Ev_Compare ?_
  refine Ev_Sub ?_
  refine Ev_loc ⟨rfl, rfl, rfl⟩ rfl rfl ?_
  refine Ev_gintX (g_VALUE hK) ⟨rfl, rfl, rfl⟩ rfl ?_
  refine Op_subT (by decide) ha a2 ?_
  refine Ev_Sub ?_
  refine Ev_loc ⟨rfl, rfl, rfl⟩ rfl rfl ?_
  refine Ev_gintX (g_VALUE hK) ⟨rfl, rfl, rfl⟩ rfl ?_
  refine Op_subT (by decide) hb b2 ?_
  refine Op_ne d1 d2 ?_
  refine Evs_nil ?_
  refine Op_intB ?_
  refine Ev_CallB ⟨rfl, rfl, rfl⟩ rfl (g_len hK) rfl rfl ?_
  refine Evs_cons ?_
  refine Ev_CallF ⟨rfl, rfl, rfl⟩ rfl (g_unlike_attributes hK) (keep_33 hK) ?_
  refine Evs_cons ?_
  refine Ev_loc ⟨rfl, rfl, rfl⟩ rfl rfl ?_
  refine Evs_cons ?_
  refine Ev_loc ⟨rfl, rfl, rfl⟩ rfl rfl ?_
  refine Evs_nil ?_
  refine unlike_ hK ha hb a3 b3 la lb oa ob h3 hne fun x hp' g hx e => Evs_nil (Op_lenL e (Op_add ?_))
  have := h hp' g
  cases q : aeq x2 y2 <;> rw [q] at this <;> exact this
end
end Mu
end
noncomputable section
open PySem PySem.W PySem.Calls PyProof.Rows
set_option Elab.async false
set_option linter.unusedVariables false
set_option maxRecDepth 100000
set_option maxHeartbeats 4000000
namespace Mu
def editOf (path : AV) : AV → AV
  | .tup [a, b, d] => .tup [.str "attribute", path, a, b, d]
  | _ => .none
theorem finding_tup {f g : List (List Str × AV)} {k : List Str} {d : AV} (h : d ∈ finding f g k) : ∃ x y z, d = .tup [x, y, z] := by
  unfold finding at h
  split at h
  · exact ⟨_, _, _, List.mem_singleton.mp h⟩
  · split at h
    · cases h
    · split at h
      · exact ⟨_, _, _, List.mem_singleton.mp h⟩
      · cases h
theorem unlike_tup {ra rb : List Row} {d : AV} (h : d ∈ unlike ra rb) : ∃ x y z, d = .tup [x, y, z] := by
  obtain ⟨k, _, h2⟩ := List.mem_flatMap.mp h
  exact finding_tup h2
theorem unlike_len {ra rb : List Row} (h3 : (unKeys ra rb).length ≤ 3) : (unlike ra rb).length ≤ 3 := Nat.le_trans (flat_len _ _ _) (sortKs_len h3)
def edits (ra rb : List Row) (x2 y2 path : AV) : List AV := (if aeq x2 y2 = true then [] else [.tup [.str "value", path, y2]]) ++ (unlike ra rb).map (editOf path)
theorem getD_at {l : List AV} {i : Nat} (h : i < l.length) : l.getD i .none = l[i] := by rw [List.getD_eq_getElem?_getD, List.getElem?_eq_getElem h]; rfl
section
variable {c : Cx} {P : Params} (hK : c.K = KK P)
include hK

theorem own_edits_ {N : Nat} {a b : List AV} {ra rb : List Row} {x2 y2 path : AV} {k : AV → AH → Prop} {hp : AH} (ha : a.length ≤ 1000) (hb : b.length ≤ 1000) (a3 : a[3]? = some (.tup (ra.map rowAV))) (b3 : b[3]? = some (.tup (rb.map rowAV)))
    (a2 : a[2]? = some x2) (b2 : b[2]? = some y2) (d1 : dOk 10 x2 = true) (d2 : dOk 10 y2 = true)
    (la : ra.length ≤ 1000) (lb : rb.length ≤ 1000) (oa : rowsOk ra = true) (ob : rowsOk rb = true) (h3 : (unKeys ra rb).length ≤ 3) (hne : ∀ k ∈ unKeys ra rb, k ≠ [])
    (h : ∀ x hp', Grow hp hp' → hp x = none → hp' x = some (.list (edits ra rb x2 y2 path)) → k (.ref x) hp') : Cal c (N + 2) (.ref 96) [.tup a, .tup b, path] k hp := by
  refine Cal_fn (⟨⟨_, _, _, by rw [hK]; k_is⟩, by rw [hK]; k_is, by exact rfl, rfl, rfl, rfl, (by intro vs hv; obtain ⟨_, vs1, rfl, hv1⟩ := vlenS (n := 2) hv; obtain ⟨_, vs2, rfl, hv2⟩ := vlenS (n := 1) hv1; obtain ⟨_, vs3, rfl, hv3⟩ := vlenS (n := 0) hv2; obtain rfl := vlen0 hv3; rfl), (by decide), allCons (by first | exact .inl rfl | exact .inr ⟨rfl, fun _ => rfl⟩) <| allCons (by first | exact .inl rfl | exact .inr ⟨rfl, fun _ => rfl⟩) <| allCons (by first | exact .inl rfl | exact .inr ⟨rfl, fun _ => rfl⟩) <| allNil, rfl, rfl, rfl⟩ : Fn c 96 ⟨_, _, ⟨_, _, _, _, _, _, _⟩, .stmts (_ :: _), ⟨_, _, _, _, _⟩, _, _, _, _, _, _, _, _, _, _⟩ (_ :: _) ["one", "other", "path"]) rfl fun L hL => ?_
  refine Ex_cons ?_
  refine Ex_Assign ?_
  refine Ev_List ?_
  refine Evs_nil ?_
  refine ⟨by simp, fun D hD => ?_⟩
  refine Un_loc ⟨rfl, rfl, rfl⟩ rfl ?_
  have hD' : hp D = none := hD
  refine Ex_cons (Ex.mono (k := fun f st => And7 (f = .next) (Grow hp st.hp) (st.hp D = some (.list (if aeq x2 y2 = true then [] else [.tup [.str "value", path, y2]]))) (st.loc "found" = some (.ref D)) (st.loc "one" = some (.tup a)) (st.loc "other" = some (.tup b)) (st.loc "path" = some path)) ?_ ?_)
  · refine Ex_If ?_
    refine Tst_Compare ?_
    refine Ev_Sub ?_
    refine Ev_loc ⟨rfl, rfl, rfl⟩ rfl rfl ?_
    refine Ev_gintX (g_VALUE hK) ⟨rfl, rfl, rfl⟩ rfl ?_
    refine Op_subT (by decide) ha a2 ?_
    refine Ev_Sub ?_
    refine Ev_loc ⟨rfl, rfl, rfl⟩ rfl rfl ?_
    refine Ev_gintX (g_VALUE hK) ⟨rfl, rfl, rfl⟩ rfl ?_
    refine Op_subT (by decide) hb b2 ?_
    refine Op_ne d1 d2 ⟨_, rfl, fun hb' => ?_, fun hb' => ?_⟩
    · refine Ex_cons (Ex_Expr (Ev_Meth (Ev_loc ⟨rfl, rfl, rfl⟩ rfl rfl ⟨_, Mth_append upd_same, fun h _ => plainF_keeps rfl h, ?_⟩)))
      refine Evs_cons ?_
      refine Ev_Tuple ?_
      refine Evs_cons ?_
      refine Ev_str ?_
      refine Evs_cons ?_
      refine Ev_loc ⟨rfl, rfl, rfl⟩ rfl rfl ?_
      refine Evs_cons ?_
      refine Ev_Sub ?_
      refine Ev_loc ⟨rfl, rfl, rfl⟩ rfl rfl ?_
      refine Ev_gintX (g_VALUE hK) ⟨rfl, rfl, rfl⟩ rfl ?_
      refine Op_subT (by decide) hb b2 ?_
      refine Evs_nil ?_
      refine ⟨by simp, Evs_nil (Op_append upd_same (by simp) ⟨rfl, Ex_nil ⟨rfl, (Grow.new hD').thenUpd hD', ?_, rfl, rfl, rfl, rfl⟩⟩)⟩
      rw [if_neg (by intro q; rw [q] at hb'; cases hb')]
      exact upd_same
    · refine Ex_nil ⟨rfl, Grow.new hD', ?_, rfl, rfl, rfl, rfl⟩
      rw [if_pos (by cases q : aeq x2 y2 <;> rw [q] at hb' <;> first | rfl | cases hb')]
      exact upd_same
  rintro f st ⟨rfl, g, eD, l1, l2, l3, l4⟩
  refine Ex_cons (Ex_For (Src_list (Ev_CallF ⟨rfl, rfl, rfl⟩ rfl (g_unlike_attributes hK) (keep_33 hK) ?_)))
  refine Evs_cons ?_
  refine Ev_loc ⟨rfl, rfl, rfl⟩ rfl l2 ?_
  refine Evs_cons ?_
  refine Ev_loc ⟨rfl, rfl, rfl⟩ rfl l3 ?_
  refine Evs_nil ?_
  refine unlike_ hK ha hb a3 b3 la lb oa ob h3 hne fun U hp' g' hU eU => ?_
  have nU : D ≠ U := ne_at eD hU
  refine ⟨U, _, rfl, eU, fun i st => And5 (Grow hp st.hp) (st.hp D = some (.list ((if aeq x2 y2 = true then [] else [.tup [.str "value", path, y2]]) ++ ((unlike ra rb).take i).map (editOf path)))) (st.hp U = some (.list (unlike ra rb))) (st.loc "found" = some (.ref D)) (st.loc "path" = some path),
    ⟨g.trans g', by simpa using g' _ _ eD, eU, l1, l4⟩, fun i st hi ⟨q0, q1, q2, q3, q4⟩ => ⟨q2, ?_⟩, fun st ⟨q0, q1, q2, q3, q4⟩ => ⟨q2, ?_⟩⟩
  · obtain ⟨x, y, z, e⟩ := unlike_tup (List.getElem_mem hi)
    refine Un1_of ((getD_at hi).trans e) ?_
    refine Un1_Tuple ?_
    refine UnL_cons ?_
    refine Un1_Name ?_
    refine Un_loc ⟨rfl, rfl, rfl⟩ rfl ?_
    refine UnL_cons ?_
    refine Un1_Name ?_
    refine Un_loc ⟨rfl, rfl, rfl⟩ rfl ?_
    refine UnL_cons ?_
    refine Un1_Name ?_
    refine Un_loc ⟨rfl, rfl, rfl⟩ rfl ?_
    refine UnL_nil ?_
    refine Ex_cons (Ex_Expr (Ev_Meth (Ev_loc ⟨rfl, rfl, rfl⟩ rfl q3 ⟨_, Mth_append q1, fun h _ => plainF_keeps rfl h, ?_⟩)))
    refine Evs_cons ?_
    refine Ev_Tuple ?_
    refine Evs_cons ?_
    refine Ev_str ?_
    refine Evs_cons ?_
    refine Ev_loc ⟨rfl, rfl, rfl⟩ rfl q4 ?_
    refine Evs_cons ?_
    refine Ev_loc ⟨rfl, rfl, rfl⟩ rfl rfl ?_
    refine Evs_cons ?_
    refine Ev_loc ⟨rfl, rfl, rfl⟩ rfl rfl ?_
    refine Evs_cons ?_
    refine Ev_loc ⟨rfl, rfl, rfl⟩ rfl rfl ?_
    refine Evs_nil ?_
    have hlt : ((if aeq x2 y2 = true then [] else [AV.tup [.str "value", path, y2]]) ++ ((unlike ra rb).take i).map (editOf path)).length < 100000 := by
      rw [List.length_append, List.length_map, List.length_take]
      have := unlike_len h3
      split <;> simp <;> omega
    refine ⟨by simp, Evs_nil (Op_append q1 hlt ⟨rfl, Ex_nil ?_⟩)⟩
    refine ⟨q0.thenUpd hD', ?_, upd_off q2 nU.symm, q3, q4⟩
    rw [take_map hi, e, ← List.append_assoc]
    exact upd_same
  · rw [List.take_length] at q1
    refine Ex_cons (Ex_Return (Ev_loc ⟨rfl, rfl, rfl⟩ rfl q3 ?_))
    exact h D _ q0 hD' q1
end
end Mu
end
noncomputable section
open PySem PySem.W PySem.Calls PyProof.Rows
set_option Elab.async false
set_option linter.unusedVariables false
set_option maxRecDepth 100000
set_option maxHeartbeats 4000000
namespace Mu
/-- the known objects are kept, but for some -/
def Gb (S : List Addr) (hp hp' : AH) : Prop := ∀ b o, b ∉ S → hp b = some o → hp' b = some o
theorem Gb.refl (S : List Addr) (hp : AH) : Gb S hp hp := fun _ _ _ e => e
theorem Gb.grow {S : List Addr} {a b d : AH} (g : Gb S a b) (h : Grow b d) : Gb S a d := fun x o hx e => h x o (g x o hx e)
theorem Gb.new {S : List Addr} {a b : AH} {x : Addr} {o : AO} (g : Gb S a b) (h : b x = none) : Gb S a (upd b x o) := g.grow (.new h)
theorem Gb.put {S : List Addr} {a b : AH} {x : Addr} {o : AO} (g : Gb S a b) (h : x ∈ S) : Gb S a (upd b x o) := fun y ob hy e => by
  rw [upd_ne (fun q => hy (by rw [q]; exact h))]; exact g y ob hy e
theorem Gb.putN {S : List Addr} {a b : AH} {x : Addr} {o : AO} (g : Gb S a b) (h : a x = none) : Gb S a (upd b x o) := fun y ob hy e => by
  rw [upd_ne (fun q => by rw [q, h] at e; cases e)]; exact g y ob hy e
theorem Grow.gone' {hp hp' : AH} (g : Grow hp hp') {x : Addr} (h : hp' x = none) : hp x = none := g.gone h

def FA (f cs sz pa pl : Addr) : List (Str × AV) := [("forms", .ref f), ("children", .ref cs), ("sizes", .ref sz), ("parents", .ref pa), ("places", .ref pl)]
def placed (ch : List AV) : List AV := (List.range ch.length).map fun p => .tup [ch.getD p .none, .int 0, .int p]
theorem placed_len (ch : List AV) : (placed ch).length = ch.length := by simp [placed]
theorem placed_at {ch : List AV} {i : Nat} (h : i < ch.length) : (placed ch)[i]? = some (.tup [ch.getD i .none, .int 0, .int i]) := by
  simp [placed, h]
/-- an element whose children are none's parents -/
structure FlatF (F : List AV) (ch : List AV) : Prop where
  len : F.length ≤ 1000
  at_ : F[4]? = some (.tup ch)
  n : ch.length ≤ 900
  ok : dOk 8 (.tup F) = true
  leaf : ∀ d ∈ ch, ∃ C, And4 (d = .tup C) (C.length ≤ 1000) (C[4]? = some (.tup [])) (dOk 8 d = true)

def allF (F ch : List AV) : List AV := ch ++ [.tup F]
def allP (ch : List AV) : List AV := List.replicate ch.length (.int ch.length) ++ [.none]
def allQ (ch : List AV) : List AV := (List.range ch.length).map (fun p : Nat => AV.int p) ++ [.int 0]
def row0 (F : List AV) : AV := .tup [.tup F, .none, .int 0]
def pushed (ch : List AV) (r : Nat) : List AV := (List.range ch.length).map fun p => .tup [ch.getD p .none, .int r, .int p]
def gR (F ch : List AV) (m : Nat) : List AV := if m = ch.length + 1 then [] else row0 F :: ((placed ch).drop m).reverse
def gL (F ch : List AV) (m : Nat) : List AV := if m = ch.length + 1 then [row0 F] else (placed ch).take m
theorem gturn {F ch : List AV} (W : FlatF F ch) {m : Nat} (h0 : 0 < m) (hm : m ≤ ch.length + 1) : ∃ base G par pl kids m', And8 (m' < m) (m' ≤ ch.length + 1) (gL F ch m = base ++ [.tup [.tup G, par, pl]]) (G.length ≤ 1000) (G[4]? = some (.tup kids)) (kids.length ≤ 900) (gL F ch m' = base ++ pushed kids (gR F ch m).length) (gR F ch m' = gR F ch m ++ [.tup [.tup G, par, pl]]) := by
  by_cases e : m = ch.length + 1
  · subst e
    refine ⟨[], F, .none, .int 0, ch, ch.length, by omega, by omega, ?_, W.len, W.at_, W.n, ?_, ?_⟩
    · unfold gL; rw [if_pos rfl]; rfl
    · unfold gL gR; rw [if_neg (by omega), if_pos rfl, List.take_of_length_le (by rw [placed_len]; exact Nat.le_refl _)]; rfl
    · unfold gR; rw [if_neg (by omega), if_pos rfl, List.drop_of_length_le (by rw [placed_len]; exact Nat.le_refl _)]; rfl
  · have hi : m - 1 < ch.length := by omega
    obtain ⟨C, eC, l1, l2, _⟩ := W.leaf ch[m - 1] (List.getElem_mem hi)
    have ep : (placed ch)[m - 1]? = some (.tup [.tup C, .int 0, .int ((m - 1 : Nat) : Int)]) := by
      rw [placed_at hi, List.getD_eq_getElem?_getD, List.getElem?_eq_getElem hi, Option.getD_some, eC]
    have hp : m - 1 < (placed ch).length := by rw [placed_len]; exact hi
    have ep' : (placed ch)[m - 1] = .tup [.tup C, .int 0, .int ((m - 1 : Nat) : Int)] := by
      rw [List.getElem?_eq_getElem hp] at ep; exact Option.some.inj ep
    refine ⟨(placed ch).take (m - 1), C, .int 0, .int ((m - 1 : Nat) : Int), [], m - 1, by omega, by omega, ?_, l1, l2, by simp, ?_, ?_⟩
    · unfold gL; rw [if_neg e]
      have := List.take_succ_eq_append_getElem hp
      rw [show m - 1 + 1 = m by omega] at this
      rw [this, ep']
    · unfold gL; rw [if_neg (by omega)]; simp [pushed]
    · unfold gR; rw [if_neg (by omega), if_neg e]
      have := List.drop_eq_getElem_cons hp
      rw [show m - 1 + 1 = m by omega] at this
      rw [this, List.reverse_cons, ep']; rfl
theorem gL_ok {F ch : List AV} (W : FlatF F ch) (m : Nat) : ∀ a ∈ gL F ch m, dOk 9 a = true := fun a ha => by
  unfold gL at ha
  split at ha
  · rw [List.mem_singleton.mp ha]
    show ([AV.tup F, .none, .int 0].all (dOk 8)) = true
    rw [List.all_cons, W.ok]; rfl
  · have := List.mem_of_mem_take ha
    obtain ⟨p, hp, rfl⟩ := List.mem_map.mp this
    have hp := List.mem_range.mp hp
    obtain ⟨C, eC, _, _, l3⟩ := W.leaf ch[p] (List.getElem_mem hp)
    show ([ch.getD p .none, AV.int 0, .int p].all (dOk 8)) = true
    rw [List.all_cons, List.getD_eq_getElem?_getD, List.getElem?_eq_getElem hp, Option.getD_some, l3]; rfl
theorem aeqs_nil : ∀ l : List AV, aeqs l [] = l.isEmpty
  | [] => rfl
  | _ :: _ => rfl
theorem gL_len {F ch : List AV} (W : FlatF F ch) (m : Nat) : (gL F ch m).length ≤ 900 := by
  unfold gL
  split
  · simp
  · rw [List.length_take, placed_len]; have := W.n; omega
theorem gR_len {F ch : List AV} (W : FlatF F ch) (m : Nat) : (gR F ch m).length ≤ 901 := by
  unfold gR
  split
  · simp
  · rw [List.length_cons, List.length_reverse, List.length_drop, placed_len]; have := W.n; omega

section
variable {c : Cx} {P : Params} (hK : c.K = KK P)
include hK

theorem gather_ {N : Nat} {x dx f cs sz pa pl : Addr} {F ch : List AV} {k : AV → AH → Prop} {hp : AH} (W : FlatF F ch) (hx : hp x = some (.inst 148 dx)) (hd : hp dx = some (.attrs (FA f cs sz pa pl)))
    (hf : hp f = some (.list [])) (hpa : hp pa = some (.list [])) (hpl : hp pl = some (.list [])) (n1 : f ≠ pa) (n2 : f ≠ pl) (n3 : pa ≠ pl)
    (h : ∀ hp', Gb [f, pa, pl] hp hp' → hp' f = some (.list (allF F ch)) → hp' pa = some (.list (allP ch)) → hp' pl = some (.list (allQ ch)) → k .none hp') :
    Cal c (N + 1) (.ref 124) [.ref x, .tup F] k hp := by
  refine Cal_fn (⟨⟨_, _, _, by rw [hK]; k_is⟩, by rw [hK]; k_is, by exact rfl, rfl, rfl, rfl, (by intro vs hv; obtain ⟨_, vs1, rfl, hv1⟩ := vlenS (n := 1) hv; obtain ⟨_, vs2, rfl, hv2⟩ := vlenS (n := 0) hv1; obtain rfl := vlen0 hv2; rfl), (by decide), allCons (by first | exact .inl rfl | exact .inr ⟨rfl, fun _ => rfl⟩) <| allCons (by first | exact .inl rfl | exact .inr ⟨rfl, fun _ => rfl⟩) <| allNil, rfl, rfl, rfl⟩ : Fn c 124 ⟨_, _, ⟨_, _, _, _, _, _, _⟩, .stmts (_ :: _), ⟨_, _, _, _, _⟩, _, _, _, _, _, _, _, _, _, _⟩ (_ :: _) ["self", "form"]) rfl fun L hL => ?_
  refine Ex_cons ?_
  refine Ex_AssignSwap ?_
  refine Ev_Tuple ?_
  refine Evs_cons ?_
  refine Ev_List ?_
  refine Evs_nil ?_
  refine ⟨by simp, fun A1 hA1 => ?_⟩
  refine Evs_cons ?_
  refine Ev_List ?_
  refine Evs_cons ?_
  refine Ev_Tuple ?_
  refine Evs_cons ?_
  refine Ev_loc ⟨rfl, rfl, rfl⟩ rfl rfl ?_
  refine Evs_cons ?_
  refine Ev_none ?_
  refine Evs_cons ?_
  refine Ev_int ?_
  refine Evs_nil ?_
  refine ⟨by simp, Evs_nil ⟨by simp, fun A2 hA2 => Evs_nil ⟨by simp, _, rfl, rfl, ?_⟩⟩⟩
  refine UnL_cons ?_
  refine Un1_bind ?_
  refine Un_loc ⟨rfl, rfl, rfl⟩ rfl ?_
  refine UnL_cons ?_
  refine Un1_bind ?_
  refine Un_loc ⟨rfl, rfl, rfl⟩ rfl ?_
  refine UnL_nil ?_
  have hA1' : hp A1 = none := hA1
  have nA : A1 ≠ A2 := ne_at upd_same hA2
  have hA2' : hp A2 = none := (Grow.new hA1').gone hA2
  refine Ex_cons (Ex.mono (k := fun fl st => And4 (fl = .next) (And3 (Gb [] hp st.hp) (hp A1 = none) (st.hp A1 = some (.list (gR F ch 0)))) (st.loc "rows" = some (.ref A1)) (st.loc "self" = some (.ref x))) ?_ ?_)
  · refine Ex_While (fun m st => And5 (And3 (Gb [] hp st.hp) (st.hp A1 = some (.list (gR F ch m))) (st.hp A2 = some (.list (gL F ch m)))) (m ≤ ch.length + 1) (st.loc "rows" = some (.ref A1)) (st.loc "left" = some (.ref A2)) (st.loc "self" = some (.ref x))) (n := ch.length + 1) ?_ ?_
    · refine ⟨⟨((Gb.refl _ _).new hA1').new hA2, ?_, ?_⟩, Nat.le_refl _, rfl, rfl, rfl⟩
      · have : gR F ch (ch.length + 1) = [] := if_pos rfl
        rw [this]; exact upd_at upd_same hA2
      · have : gL F ch (ch.length + 1) = [row0 F] := if_pos rfl
        rw [this]; exact upd_same
    · rintro m st ⟨⟨g, e1, e2⟩, hm, l1, l2, l3⟩
      refine Tst_Compare (Ev_loc ⟨rfl, rfl, rfl⟩ rfl l2 (Ev_List (Evs_nil ⟨by simp, fun D hD => Op_neList (upd_at e2 hD) upd_same (gL_ok W m) (by simp) ⟨_, rfl, fun hb => ?_, fun hb => ?_⟩⟩)))
      · rw [aeqs_nil] at hb
        have hm0 : 0 < m := by
          rcases Nat.eq_zero_or_pos m with q | q
          · subst q
            unfold gL at hb
            rw [if_neg (by omega)] at hb
            simp at hb
          · exact q
        obtain ⟨base, G, par, plc, kids, m', h1, h2, h3, h4, h5, h6, h7, h8⟩ := gturn W hm0 hm
        have g' := g.new hD (o := .list [])
        have e1' := upd_at (o' := .list []) e1 hD
        have e2' := upd_at (o' := .list []) e2 hD
        rw [h3] at e2'
        refine Ex_cons (Ex_Assign (Ev_Meth0 (Ev_loc ⟨rfl, rfl, rfl⟩ rfl l2 ⟨_, Mth_pop e2', fun h _ => plainF_keeps rfl h, Op_pop e2' ?_⟩)))
        refine Un_loc ⟨rfl, rfl, rfl⟩ rfl ?_
        refine Ex_cons ?_
        refine Ex_Assign ?_
        refine Ev_CallB ⟨rfl, rfl, rfl⟩ rfl (g_len hK) rfl rfl ?_
        refine Evs_cons ?_
        refine Ev_loc ⟨rfl, rfl, rfl⟩ rfl l1 ?_
        refine Evs_nil ?_
        refine Op_lenL (upd_off e1' nA) ?_
        refine Un_loc ⟨rfl, rfl, rfl⟩ rfl ?_
        refine Ex_cons (Ex_Expr (Ev_Meth (Ev_loc ⟨rfl, rfl, rfl⟩ rfl l1 ⟨_, Mth_append (upd_off e1' nA), fun h _ => plainF_keeps rfl h, ?_⟩)))
        refine Evs_cons ?_
        refine Ev_loc ⟨rfl, rfl, rfl⟩ rfl rfl ?_
        refine Evs_nil ?_
        refine Op_append (upd_off e1' nA) (by have := gR_len W m; omega) ?_
        refine ⟨rfl, Ex_cons (Ex_For (Src_range ⟨rfl, rfl, rfl⟩ rfl (g_range hK) ?_))⟩
        refine Ev_CallB ⟨rfl, rfl, rfl⟩ rfl (g_len hK) rfl rfl ?_
        refine Evs_cons ?_
        refine Ev_Sub ?_
        refine Ev_Sub ?_
        refine Ev_loc ⟨rfl, rfl, rfl⟩ rfl rfl ?_
        refine Ev_int ?_
        refine Op_subT (by decide) (by simp) rfl ?_
        refine Ev_gintX (g_CHILDREN hK) ⟨rfl, rfl, rfl⟩ rfl ?_
        refine Op_subT (by decide) h4 h5 ?_
        refine Evs_nil (Op_lenT (by omega) ⟨kids.length, rfl, by omega, fun i st => And6 (And3 (Gb [] hp st.hp) (st.hp A1 = some (.list (gR F ch m'))) (st.hp A2 = some (.list (base ++ (pushed kids (gR F ch m).length).take i)))) (st.loc "rows" = some (.ref A1)) (st.loc "left" = some (.ref A2)) (st.loc "self" = some (.ref x)) (st.loc "row" = some (.tup [.tup G, par, plc])) (st.loc "number" = some (.int (gR F ch m).length)), ?_, fun i st hi ⟨⟨g, q1, q2⟩, l1, l2, l3, l4, l5⟩ => ⟨trivial, ?_⟩, fun st ⟨⟨g, q1, q2⟩, l1, l2, l3, l4, l5⟩ => ⟨trivial, ?_⟩⟩)
        · refine ⟨⟨(g'.putN hA2').putN hA1', ?_, ?_⟩, l1, l2, l3, rfl, rfl⟩
          · rw [h8]; exact upd_same
          · rw [List.take_zero, List.append_nil]; exact upd_off upd_same nA.symm
        · have hlk : (pushed kids (gR F ch m).length).length = kids.length := by simp [pushed]
          refine Un1_Name ?_
          refine Un_loc ⟨rfl, rfl, rfl⟩ rfl ?_
          refine Ex_cons (Ex_Expr (Ev_Meth (Ev_loc ⟨rfl, rfl, rfl⟩ rfl l2 ⟨_, Mth_append q2, fun h _ => plainF_keeps rfl h, ?_⟩)))
          refine Evs_cons ?_
          refine Ev_Tuple ?_
          refine Evs_cons ?_
          refine Ev_Sub ?_
          refine Ev_Sub ?_
          refine Ev_Sub ?_
          refine Ev_loc ⟨rfl, rfl, rfl⟩ rfl l4 ?_
          refine Ev_int ?_
          refine Op_subT (by decide) (by simp) rfl ?_
          refine Ev_gintX (g_CHILDREN hK) ⟨rfl, rfl, rfl⟩ rfl ?_
          refine Op_subT (by decide) h4 h5 ?_
          refine Ev_loc ⟨rfl, rfl, rfl⟩ rfl rfl ?_
          refine Op_subT (a := kids.getD i .none) (by omega) (by omega) (by rw [Int.toNat_natCast, List.getD_eq_getElem?_getD, List.getElem?_eq_getElem hi]; rfl) ?_
          refine Evs_cons ?_
          refine Ev_loc ⟨rfl, rfl, rfl⟩ rfl l5 ?_
          refine Evs_cons ?_
          refine Ev_loc ⟨rfl, rfl, rfl⟩ rfl rfl ?_
          refine Evs_nil ?_
          refine ⟨by simp, Evs_nil (Op_append q2 ?_ ⟨rfl, Ex_nil ⟨⟨g.putN hA2', upd_off q1 nA, ?_⟩, l1, l2, l3, l4, l5⟩⟩)⟩
          · rw [List.length_append, List.length_take, hlk]
            have : base.length ≤ 900 := by
              have := gL_len W m
              rw [h3, List.length_append] at this
              omega
            omega
          · have e : (pushed kids (gR F ch m).length)[i]? = some (.tup [kids.getD i .none, .int (gR F ch m).length, .int i]) := by simp [pushed, hi]
            rw [List.take_add_one, e, ← List.append_assoc]
            exact upd_same
        · rw [List.take_of_length_le (by simp [pushed])] at q2
          refine Ex_nil ⟨m', h1, ⟨g, q1, by rw [h7]; exact q2⟩, h2, l1, l2, l3⟩
      · rw [aeqs_nil] at hb
        have hm0 : m = 0 := by
          rcases Nat.eq_zero_or_pos m with q | q
          · exact q
          · obtain ⟨base, G, par, plc, kids, m', h1, h2, h3, _⟩ := gturn W q hm
            rw [h3] at hb; simp at hb
        subst hm0
        exact ⟨rfl, ⟨g.new hD, hA1', upd_at e1 hD⟩, l1, l3⟩
  rintro fl st ⟨rfl, ⟨g, hA1n, e1⟩, l1, l3⟩
  have e0 : gR F ch 0 = row0 F :: (placed ch).reverse := by unfold gR; rw [if_neg (by omega), List.drop_zero]
  rw [e0] at e1
  refine Ex_cons ?_
  refine Ex_Assign ?_
  refine Ev_CallB ⟨rfl, rfl, rfl⟩ rfl (g_len hK) rfl rfl ?_
  refine Evs_cons ?_
  refine Ev_loc ⟨rfl, rfl, rfl⟩ rfl l1 ?_
  refine Evs_nil ?_
  refine Op_lenL e1 ?_
  refine Un_loc ⟨rfl, rfl, rfl⟩ rfl ?_
  have em : ((row0 F :: (placed ch).reverse).length : Int) = ch.length + 1 := by rw [List.length_cons, List.length_reverse, placed_len]; rfl
  rw [em]
  have hxs : st.hp x = some (.inst 148 dx) := g _ _ (by simp) hx
  have hds : st.hp dx = some (.attrs (FA f cs sz pa pl)) := g _ _ (by simp) hd
  have hfs : st.hp f = some (.list []) := g _ _ (by simp) hf
  have hpas : st.hp pa = some (.list []) := g _ _ (by simp) hpa
  have hpls : st.hp pl = some (.list []) := g _ _ (by simp) hpl
  refine Ex_cons (Ex_For (Src_list (Ev_SubRev (Ev_loc ⟨rfl, rfl, rfl⟩ rfl l1 ⟨A1, _, rfl, Ev_UnaryOp (Ev_int (Op_neg ⟨rfl, e1, fun D hD => ?_⟩))⟩))))
  have hD' : hp D = none := by
    cases q : hp D with
    | none => rfl
    | some o => have := g _ _ (by simp) q; rw [show st.hp D = none from hD] at this; cases this
  have er : (row0 F :: (placed ch).reverse).reverse = placed ch ++ [row0 F] := by rw [List.reverse_cons, List.reverse_reverse]
  rw [er]
  have nf : f ≠ D := ne_at hfs hD
  have npa : pa ≠ D := ne_at hpas hD
  have npl : pl ≠ D := ne_at hpls hD
  have nxf : ∀ (y : Addr) (o : AO), st.hp y = some o → (∀ l, o ≠ .list l) → And4 (y ≠ f) (y ≠ pa) (y ≠ pl) (y ≠ D) := fun y o e hne => ⟨fun q => by rw [q, hfs] at e; exact hne _ (Option.some.inj e).symm, fun q => by rw [q, hpas] at e; exact hne _ (Option.some.inj e).symm, fun q => by rw [q, hpls] at e; exact hne _ (Option.some.inj e).symm, ne_at e hD⟩
  obtain ⟨x1, x2, x3, x4⟩ := nxf x _ hxs (by intro l q; cases q)
  obtain ⟨y1, y2, y3, y4⟩ := nxf dx _ hds (by intro l q; cases q)
  have lRL : (placed ch ++ [row0 F]).length = ch.length + 1 := by rw [List.length_append, placed_len]; rfl
  have items : ∀ i, i < ch.length + 1 → ∃ u par, ∃ pc : Int, And4 ((placed ch ++ [row0 F])[i]? = some (.tup [u, par, .int pc])) ((allF F ch)[i]? = some u) ((par = .none ∧ (allP ch)[i]? = some .none) ∨ (par = .int 0 ∧ (allP ch)[i]? = some (.int ch.length))) ((allQ ch)[i]? = some (.int pc)) := fun i hi => by
    unfold allF allP allQ
    by_cases q : i < ch.length
    · refine ⟨ch.getD i .none, .int 0, i, ?_, ?_, .inr ⟨rfl, ?_⟩, ?_⟩
      · rw [List.getElem?_append_left (by rw [placed_len]; exact q)]; exact placed_at q
      · rw [List.getElem?_append_left q, List.getD_eq_getElem?_getD, List.getElem?_eq_getElem q]; rfl
      · rw [List.getElem?_append_left (by rw [List.length_replicate]; exact q), List.getElem?_replicate, if_pos q]
      · rw [List.getElem?_append_left (by rw [List.length_map, List.length_range]; exact q)]; simp [q]
    · obtain rfl : i = ch.length := by omega
      refine ⟨.tup F, .none, 0, ?_, ?_, .inl ⟨rfl, ?_⟩, ?_⟩
      · rw [List.getElem?_append_right (by rw [placed_len]; exact Nat.le_refl _), placed_len, Nat.sub_self]; rfl
      · rw [List.getElem?_append_right (Nat.le_refl _), Nat.sub_self]; rfl
      · rw [List.getElem?_append_right (by rw [List.length_replicate]; exact Nat.le_refl _), List.length_replicate, Nat.sub_self]; rfl
      · rw [List.getElem?_append_right (by rw [List.length_map, List.length_range]; exact Nat.le_refl _), List.length_map, List.length_range, Nat.sub_self]; rfl
  refine ⟨D, _, rfl, upd_same, fun i st => And3 (And7 (Gb [f, pa, pl] hp st.hp) (st.hp x = some (.inst 148 dx)) (st.hp dx = some (.attrs (FA f cs sz pa pl))) (st.hp D = some (.list (placed ch ++ [row0 F]))) (st.hp f = some (.list ((allF F ch).take i))) (st.hp pa = some (.list ((allP ch).take i))) (st.hp pl = some (.list ((allQ ch).take i)))) (st.loc "self" = some (.ref x)) (st.loc "many" = some (.int (ch.length + 1))), ⟨⟨?_, upd_at hxs hD, upd_at hds hD, upd_same, upd_at hfs hD, upd_at hpas hD, upd_at hpls hD⟩, l3, rfl⟩, fun i st hi ⟨⟨g, qx, qd, qD, qf, qp, ql⟩, l1, l2⟩ => ⟨qD, ?_⟩, fun st ⟨⟨g, qx, qd, qD, qf, qp, ql⟩, l1, l2⟩ => ⟨qD, ?_⟩⟩
  · exact fun b o hb e => upd_at (g b o (by simp) e) hD
  · rw [lRL] at hi
    have hW := W.n
    obtain ⟨u, par, pc, i1, i2, i3, i4⟩ := items i hi
    have ei : (placed ch ++ [row0 F]).getD i .none = .tup [u, par, .int pc] := by rw [List.getD_eq_getElem?_getD, i1]; rfl
    have tk : ∀ {l : List AV} {a : AV}, l[i]? = some a → l.take (i + 1) = l.take i ++ [a] := fun {l a} e => by rw [List.take_add_one, e]; rfl
    have ln : ∀ l : List AV, (l.take i).length < 100000 := fun l => by rw [List.length_take]; omega
    refine Un1_of ei ?_
    refine Un1_Tuple ?_
    refine UnL_cons ?_
    refine Un1_Name ?_
    refine Un_loc ⟨rfl, rfl, rfl⟩ rfl ?_
    refine UnL_cons ?_
    refine Un1_Name ?_
    refine Un_loc ⟨rfl, rfl, rfl⟩ rfl ?_
    refine UnL_cons ?_
    refine Un1_Name ?_
    refine Un_loc ⟨rfl, rfl, rfl⟩ rfl ?_
    refine UnL_nil ?_
    refine Ex_cons (Ex_Expr (Ev_Meth (Ev_Attr (Ev_loc ⟨rfl, rfl, rfl⟩ rfl l1 (Op_attr qx qd rfl (get_148_forms hK) (hasd_148 hK) (fnd_148_forms hK) (noGet0 hK) ⟨_, Mth_append qf, fun h _ => plainF_keeps rfl h, ?_⟩)))))
    refine Evs_cons ?_
    refine Ev_loc ⟨rfl, rfl, rfl⟩ rfl rfl ?_
    refine Evs_nil ?_
    refine Op_append qf (ln _) ?_
    refine ⟨rfl, ?_⟩
    have fin3 : ∀ a b d : AO, And4 (And4 (Gb [f, pa, pl] hp (upd (upd (upd st.hp f a) pa b) pl d)) (upd (upd (upd st.hp f a) pa b) pl d x = some (.inst 148 dx)) (upd (upd (upd st.hp f a) pa b) pl d dx = some (.attrs (FA f cs sz pa pl))) (upd (upd (upd st.hp f a) pa b) pl d D = some (.list (placed ch ++ [row0 F])))) (upd (upd (upd st.hp f a) pa b) pl d f = some a) (upd (upd (upd st.hp f a) pa b) pl d pa = some b) (upd (upd (upd st.hp f a) pa b) pl d pl = some d) := fun a b d =>
      ⟨⟨((g.put (by simp)).put (by simp)).put (by simp), upd_off (upd_off (upd_off qx x1) x2) x3, upd_off (upd_off (upd_off qd y1) y2) y3, upd_off (upd_off (upd_off qD nf.symm) npa.symm) npl.symm⟩, upd_off (upd_off upd_same n1) n2, upd_off upd_same n3, upd_same⟩
    have qx1 := upd_off (o' := .list ((allF F ch).take i ++ [u])) qx x1
    have qd1 := upd_off (o' := .list ((allF F ch).take i ++ [u])) qd y1
    have qp1 := upd_off (o' := .list ((allF F ch).take i ++ [u])) qp n1.symm
    refine Ex_cons (Ex_Expr (Ev_Meth (Ev_Attr (Ev_loc ⟨rfl, rfl, rfl⟩ rfl l1 (Op_attr qx1 qd1 rfl (get_148_parents hK) (hasd_148 hK) (fnd_148_parents hK) (noGet0 hK) ⟨_, Mth_append qp1, fun h _ => plainF_keeps rfl h, ?_⟩)))))
    refine Evs_cons ?_
    refine Ev_IfExp ?_
    refine Tst_Compare ?_
    refine Ev_loc ⟨rfl, rfl, rfl⟩ rfl rfl ?_
    refine Ev_none ?_
    refine Op_isNone ?_
    refine ⟨_, rfl, fun hb => ?_, fun hb => ?_⟩
    · rcases i3 with ⟨rfl, i3⟩ | ⟨rfl, i3⟩
      · refine Ev_none ?_
        refine Evs_nil ?_
        refine Op_append qp1 (ln _) ?_
        refine ⟨rfl, ?_⟩
        have qx2 := upd_off (o' := .list ((allP ch).take i ++ [.none])) qx1 x2
        have qd2 := upd_off (o' := .list ((allP ch).take i ++ [.none])) qd1 y2
        have ql2 := upd_off (o' := .list ((allP ch).take i ++ [.none])) (upd_off (o' := .list ((allF F ch).take i ++ [u])) ql n2.symm) n3.symm
        refine Ex_cons (Ex_Expr (Ev_Meth (Ev_Attr (Ev_loc ⟨rfl, rfl, rfl⟩ rfl l1 (Op_attr qx2 qd2 rfl (get_148_places hK) (hasd_148 hK) (fnd_148_places hK) (noGet0 hK) ⟨_, Mth_append ql2, fun h _ => plainF_keeps rfl h, ?_⟩)))))
        refine Evs_cons ?_
        refine Ev_loc ⟨rfl, rfl, rfl⟩ rfl rfl ?_
        refine Evs_nil ?_
        refine Op_append ql2 (ln _) ?_
        refine ⟨rfl, Ex_nil ?_⟩
        obtain ⟨⟨z1, z2, z3, z4⟩, z5, z6, z7⟩ := fin3 (.list ((allF F ch).take i ++ [u])) (.list ((allP ch).take i ++ [.none])) (.list ((allQ ch).take i ++ [.int pc]))
        exact ⟨⟨z1, z2, z3, z4, by rw [tk i2]; exact z5, by rw [tk i3]; exact z6, by rw [tk i4]; exact z7⟩, l1, l2⟩
      · cases hb
    · rcases i3 with ⟨rfl, i3⟩ | ⟨rfl, i3⟩
      · cases hb
      · refine Ev_BinOp ?_
        refine Ev_BinOp ?_
        refine Ev_loc ⟨rfl, rfl, rfl⟩ rfl l2 ?_
        refine Ev_int ?_
        refine Op_sub ?_
        refine Ev_loc ⟨rfl, rfl, rfl⟩ rfl rfl ?_
        refine Op_sub ?_
        rw [show (ch.length : Int) + 1 - 1 - 0 = ch.length by omega]
        refine Evs_nil ?_
        refine Op_append qp1 (ln _) ?_
        refine ⟨rfl, ?_⟩
        have qx2 := upd_off (o' := .list ((allP ch).take i ++ [.int ch.length])) qx1 x2
        have qd2 := upd_off (o' := .list ((allP ch).take i ++ [.int ch.length])) qd1 y2
        have ql2 := upd_off (o' := .list ((allP ch).take i ++ [.int ch.length])) (upd_off (o' := .list ((allF F ch).take i ++ [u])) ql n2.symm) n3.symm
        refine Ex_cons (Ex_Expr (Ev_Meth (Ev_Attr (Ev_loc ⟨rfl, rfl, rfl⟩ rfl l1 (Op_attr qx2 qd2 rfl (get_148_places hK) (hasd_148 hK) (fnd_148_places hK) (noGet0 hK) ⟨_, Mth_append ql2, fun h _ => plainF_keeps rfl h, ?_⟩)))))
        refine Evs_cons ?_
        refine Ev_loc ⟨rfl, rfl, rfl⟩ rfl rfl ?_
        refine Evs_nil ?_
        refine Op_append ql2 (ln _) ?_
        refine ⟨rfl, Ex_nil ?_⟩
        obtain ⟨⟨z1, z2, z3, z4⟩, z5, z6, z7⟩ := fin3 (.list ((allF F ch).take i ++ [u])) (.list ((allP ch).take i ++ [.int ch.length])) (.list ((allQ ch).take i ++ [.int pc]))
        exact ⟨⟨z1, z2, z3, z4, by rw [tk i2]; exact z5, by rw [tk i3]; exact z6, by rw [tk i4]; exact z7⟩, l1, l2⟩
  · rw [lRL] at qf qp ql
    rw [List.take_of_length_le (by unfold allF; simp)] at qf
    rw [List.take_of_length_le (by unfold allP; simp)] at qp
    rw [List.take_of_length_le (by unfold allQ; simp)] at ql
    exact Ex_nil (h _ g qf qp ql)
end
end Mu
end
noncomputable section
open PySem PySem.W PySem.Calls PyProof.Rows
set_option Elab.async false
set_option linter.unusedVariables false
set_option maxRecDepth 100000
set_option maxHeartbeats 4000000
namespace Mu
/-- the children's numbers, so many put already -/
def numbs (n i : Nat) : List AV := (List.range i).map (fun p : Nat => AV.int p) ++ List.replicate (n - i) .none
def kidsAt (ch : List AV) (p : Nat) : List AV := if p = ch.length then List.replicate ch.length .none else []
def sizesAt (n i : Nat) : List AV := List.replicate n (.int 1) ++ [.int (1 + i : Nat)]
theorem repl_take {n i : Nat} (h : i < n) (a : AV) : (List.replicate n a).take (i + 1) = (List.replicate n a).take i ++ [a] := by
  rw [List.take_add_one, List.getElem?_replicate, if_pos h]; rfl
theorem numbs_set {n i : Nat} (h : i < n) : (numbs n i).set i (.int i) = numbs n (i + 1) := by
  unfold numbs
  rw [List.set_append_right _ _ (by simp)]
  have e : n - i = (n - (i + 1)) + 1 := by omega
  rw [e, List.replicate_succ, List.range_succ, List.map_append, List.append_assoc]
  simp
theorem numbs_len {n i : Nat} (h : i ≤ n) : (numbs n i).length = n := by unfold numbs; simp; omega
theorem sizes_set (n i : Nat) : (sizesAt n i).set n (.int (1 + (i : Int) + 1)) = sizesAt n (i + 1) := by
  unfold sizesAt
  rw [List.set_append_right _ _ (by simp)]
  simp; omega
theorem sizes_n (n i : Nat) : (sizesAt n i)[n]? = some (.int (1 + (i : Int))) := by
  unfold sizesAt
  rw [List.getElem?_append_right (by simp)]
  simp
theorem sizes_i {n i p : Nat} (h : p < n) : (sizesAt n i)[p]? = some (.int 1) := by
  unfold sizesAt
  rw [List.getElem?_append_left (by simpa using h), List.getElem?_replicate, if_pos h]
theorem sizes_len (n i : Nat) : (sizesAt n i).length = n + 1 := by unfold sizesAt; simp
/-- a flat form in the heap -/
def Flat (hp : AH) (x : Addr) (F ch : List AV) : Prop := ∃ dx f cs sz pa pl, ∃ kids : List Addr, And8 (hp x = some (.inst 148 dx)) (hp dx = some (.attrs (FA f cs sz pa pl))) (hp f = some (.list (allF F ch))) (hp cs = some (.list (kids.map .ref))) (kids.length = ch.length + 1) (∀ p, p < ch.length → ∃ q, kids[p]? = some q ∧ hp q = some (.list [])) (∃ q, kids[ch.length]? = some q ∧ hp q = some (.list ((List.range ch.length).map (fun p : Nat => AV.int p)))) (hp sz = some (.list (sizesAt ch.length ch.length)))
theorem Flat.grow {hp hp' : AH} {x : Addr} {F ch : List AV} (h : Flat hp x F ch) (g : Grow hp hp') : Flat hp' x F ch := by
  obtain ⟨dx, f, cs, sz, pa, pl, kids, h1, h2, h3, h4, h5, h6, h7, h8⟩ := h
  exact ⟨dx, f, cs, sz, pa, pl, kids, g _ _ h1, g _ _ h2, g _ _ h3, g _ _ h4, h5, fun p hp => let ⟨q, a, b⟩ := h6 p hp; ⟨q, a, g _ _ b⟩, let ⟨q, a, b⟩ := h7; ⟨q, a, g _ _ b⟩, g _ _ h8⟩

theorem ne_val {q : AH} {x y : Addr} {o o' : AO} (h : q x = some o) (h' : q y = some o') (hne : o ≠ o') : x ≠ y := fun e => hne (by rw [e] at h; exact Option.some.inj (h.symm.trans h'))
/-- a fresh object under way -/
structure Ini (hp : AH) (x dx C : Addr) (es : List (Str × AV)) (as : List Addr) (q : AH) : Prop where
  g : Grow hp q
  x : q x = some (.inst C dx)
  d : q dx = some (.attrs es)
  nd : as.Nodup
  at_ : ∀ a ∈ as, q a = some (.list []) ∧ hp a = none
theorem Ini.step {hp q : AH} {x dx C : Addr} {es : List (Str × AV)} {as : List Addr} (I : Ini hp x dx C es as q) (hdx : hp dx = none) (nxd : x ≠ dx) (name : Str) {D : Addr} (hD : q D = none) :
    Ini hp x dx C (aput name (.ref D) es) (as ++ [D]) (upd (upd q D (.list [])) dx (.attrs (aput name (.ref D) es))) where
  g := (I.g.thenNew hD).thenUpd hdx
  x := upd_off (upd_at I.x hD) nxd
  d := upd_same
  nd := List.nodup_append.mpr ⟨I.nd, by simp, fun a ha b hb e => by
    obtain rfl := List.mem_singleton.mp hb
    exact ne_at (I.at_ a ha).1 hD e⟩
  at_ := fun a ha => by
    rcases List.mem_append.mp ha with ha | ha
    · obtain ⟨h1, h2⟩ := I.at_ a ha
      refine ⟨upd_off (upd_at h1 hD) (fun e => ?_), h2⟩
      rw [e, I.d] at h1; cases h1
    · obtain rfl := List.mem_singleton.mp ha
      refine ⟨upd_off upd_same (fun e => ?_), I.g.gone hD⟩
      rw [e, I.d] at hD; cases hD

section
variable {c : Cx} {P : Params} (hK : c.K = KK P)
include hK

theorem measure_ {N : Nat} {x dx f cs sz pa pl : Addr} {F ch : List AV} {k : AV → AH → Prop} {hp : AH} (W : FlatF F ch) (hx : hp x = some (.inst 148 dx)) (hd : hp dx = some (.attrs (FA f cs sz pa pl)))
    (hf : hp f = some (.list (allF F ch))) (hcs : hp cs = some (.list [])) (hsz : hp sz = some (.list [])) (hpa : hp pa = some (.list (allP ch))) (hpl : hp pl = some (.list (allQ ch))) (n1 : cs ≠ sz) (n2 : cs ≠ f) (n3 : sz ≠ f) (n4 : cs ≠ pa) (n5 : cs ≠ pl) (n6 : sz ≠ pa) (n7 : sz ≠ pl)
    (h : ∀ hp', Gb [cs, sz] hp hp' → Flat hp' x F ch → k .none hp') :
    Cal c (N + 1) (.ref 131) [.ref x] k hp := by
  refine Cal_fn (⟨⟨_, _, _, by rw [hK]; k_is⟩, by rw [hK]; k_is, by exact rfl, rfl, rfl, rfl, (by intro vs hv; obtain ⟨_, vs1, rfl, hv1⟩ := vlenS (n := 0) hv; obtain rfl := vlen0 hv1; rfl), (by decide), allCons (by first | exact .inl rfl | exact .inr ⟨rfl, fun _ => rfl⟩) <| allNil, rfl, rfl, rfl⟩ : Fn c 131 ⟨_, _, ⟨_, _, _, _, _, _, _⟩, .stmts (_ :: _), ⟨_, _, _, _, _⟩, _, _, _, _, _, _, _, _, _, _⟩ (_ :: _) ["self"]) rfl fun L hL => ?_
  have hW := W.n
  have nx : x ≠ cs ∧ x ≠ sz := ⟨fun q => (by rw [q, hcs] at hx; cases hx), fun q => (by rw [q, hsz] at hx; cases hx)⟩
  have nd : dx ≠ cs ∧ dx ≠ sz := ⟨fun q => (by rw [q, hcs] at hd; cases hd), fun q => (by rw [q, hsz] at hd; cases hd)⟩
  have lF : (allF F ch).length = ch.length + 1 := by unfold allF; simp
  have atF : ∀ i, i < ch.length + 1 → ∃ C kids, And5 ((allF F ch)[i]? = some (.tup C)) (C.length ≤ 1000) (C[4]? = some (.tup kids)) (kids.length ≤ 900) (List.replicate kids.length AV.none = kidsAt ch i) := fun i hi => by
    unfold allF kidsAt
    by_cases q : i < ch.length
    · obtain ⟨C, e, l1, l2, _⟩ := W.leaf ch[i] (List.getElem_mem q)
      exact ⟨C, [], by rw [List.getElem?_append_left q, List.getElem?_eq_getElem q, e], l1, l2, by simp, by rw [if_neg (by omega)]; rfl⟩
    · obtain rfl : i = ch.length := by omega
      exact ⟨F, ch, by rw [List.getElem?_append_right (Nat.le_refl _), Nat.sub_self]; rfl, W.len, W.at_, W.n, by rw [if_pos rfl]⟩
  refine Ex_cons (Ex.mono (k := fun fl st => And3 (fl = .next) (∃ kids : List Addr, And6 (kids.length = ch.length + 1) (Gb [cs, sz] hp st.hp) (st.hp cs = some (.list (kids.map .ref))) (st.hp sz = some (.list (List.replicate (ch.length + 1) (.int 1)))) (kids.Nodup) (∀ p q, kids[p]? = some q → hp q = none ∧ q ≠ cs ∧ q ≠ sz ∧ st.hp q = some (.list (kidsAt ch p)))) (st.loc "self" = some (.ref x))) ?_ ?_)
  · refine Ex_For (Src_range ⟨rfl, rfl, rfl⟩ rfl (g_range hK) ?_)
    refine Ev_CallB ⟨rfl, rfl, rfl⟩ rfl (g_len hK) rfl rfl ?_
    refine Evs_cons ?_
    refine Ev_Attr ?_
    refine Ev_loc ⟨rfl, rfl, rfl⟩ rfl rfl ?_
    refine Op_attr hx hd rfl (get_148_forms hK) (hasd_148 hK) (fnd_148_forms hK) (noGet0 hK) ?_
    refine Evs_nil ?_
    refine Op_lenL hf ?_
    refine ⟨ch.length + 1, by rw [lF], by omega, fun i st => (∃ kids : List Addr, And6 (kids.length = i) (Gb [cs, sz] hp st.hp) (st.hp cs = some (.list (kids.map .ref))) (st.hp sz = some (.list ((List.replicate (ch.length + 1) (AV.int 1)).take i))) (kids.Nodup) (∀ p q, kids[p]? = some q → hp q = none ∧ q ≠ cs ∧ q ≠ sz ∧ st.hp q = some (.list (kidsAt ch p)))) ∧ st.loc "self" = some (.ref x), ⟨⟨[], rfl, .refl _ _, hcs, by simpa using hsz, List.nodup_nil, by simp⟩, rfl⟩, fun i st hi ⟨⟨kids, k1, g, k2, k3, k4, k5⟩, l1⟩ => ⟨trivial, ?_⟩, fun st ⟨⟨kids, k1, g, k2, k3, k4, k5⟩, l1⟩ => ⟨trivial, ?_⟩⟩
    · have qx : st.hp x = some (.inst 148 dx) := g _ _ (by simp [nx.1, nx.2]) hx
      have qd : st.hp dx = some (.attrs (FA f cs sz pa pl)) := g _ _ (by simp [nd.1, nd.2]) hd
      have qf : st.hp f = some (.list (allF F ch)) := g _ _ (by simp [n2.symm, n3.symm]) hf
      obtain ⟨C, ks, c1, c2, c3, c4, c5⟩ := atF i hi
      refine Un1_Name ?_
      refine Un_loc ⟨rfl, rfl, rfl⟩ rfl ?_
      refine Ex_cons (Ex_Expr (Ev_Meth (Ev_Attr (Ev_loc ⟨rfl, rfl, rfl⟩ rfl l1 (Op_attr qx qd rfl (get_148_children hK) (hasd_148 hK) (fnd_148_children hK) (noGet0 hK) ⟨_, Mth_append k2, fun h _ => plainF_keeps rfl h, ?_⟩)))))
      refine Evs_cons ?_
      refine Ev_BinOp ?_
      refine Ev_List ?_
      refine Evs_cons ?_
      refine Ev_none ?_
      refine Evs_nil ?_
      refine ⟨by simp, fun D1 hD1 => ?_⟩
      have qx1 := upd_at (o' := .list [.none]) qx hD1
      have qd1 := upd_at (o' := .list [.none]) qd hD1
      have qf1 := upd_at (o' := .list [.none]) qf hD1
      refine Ev_CallB ⟨rfl, rfl, rfl⟩ rfl (g_len hK) rfl rfl ?_
      refine Evs_cons ?_
      refine Ev_Sub ?_
      refine Ev_Sub ?_
      refine Ev_Attr ?_
      refine Ev_loc ⟨rfl, rfl, rfl⟩ rfl l1 ?_
      refine Op_attr qx1 qd1 rfl (get_148_forms hK) (hasd_148 hK) (fnd_148_forms hK) (noGet0 hK) ?_
      refine Ev_loc ⟨rfl, rfl, rfl⟩ rfl rfl ?_
      refine Op_subL qf1 (by omega) (by rw [Int.toNat_natCast]; exact c1) ?_
      refine Ev_gintX (g_CHILDREN hK) ⟨rfl, rfl, rfl⟩ rfl ?_
      refine Op_subT (by decide) c2 c3 ?_
      refine Evs_nil ?_
      refine Op_lenT (by omega) ?_
      refine Op_mulL upd_same (by omega) fun D2 hD2 => ?_
      rw [c5]
      have hD2' : st.hp D2 = none := (Grow.new (show st.hp D1 = none from hD1)).gone hD2
      have gN : ∀ y, st.hp y = none → y ≠ cs → y ≠ sz → hp y = none := fun y e a b => by
        cases q : hp y with
        | none => rfl
        | some o => have := g _ _ (by simp [a, b]) q; rw [e] at this; cases this
      have dcs : D2 ≠ cs := (ne_at k2 hD2').symm
      have dsz : D2 ≠ sz := (ne_at k3 hD2').symm
      have k2' := upd_at (o' := .list (kidsAt ch i)) (upd_at (o' := .list [.none]) k2 hD1) hD2
      have k3' := upd_at (o' := .list (kidsAt ch i)) (upd_at (o' := .list [.none]) k3 hD1) hD2
      have g' : Gb [cs, sz] hp (upd (upd st.hp D1 (.list [.none])) D2 (.list (kidsAt ch i))) := (g.new hD1).new hD2
      refine Evs_nil ?_
      refine Op_append k2' (by rw [List.length_map, k1]; omega) ?_
      refine ⟨rfl, ?_⟩
      have qx2 := upd_off (o' := .list (kids.map .ref ++ [.ref D2])) (upd_at (o' := .list (kidsAt ch i)) qx1 hD2) nx.1
      have qd2 := upd_off (o' := .list (kids.map .ref ++ [.ref D2])) (upd_at (o' := .list (kidsAt ch i)) qd1 hD2) nd.1
      have k3' := upd_off (o' := .list (kids.map .ref ++ [.ref D2])) k3' n1.symm
      refine Ex_cons (Ex_Expr (Ev_Meth (Ev_Attr (Ev_loc ⟨rfl, rfl, rfl⟩ rfl l1 (Op_attr qx2 qd2 rfl (get_148_sizes hK) (hasd_148 hK) (fnd_148_sizes hK) (noGet0 hK) ⟨_, Mth_append k3', fun h _ => plainF_keeps rfl h, ?_⟩)))))
      refine Evs_cons ?_
      refine Ev_int ?_
      refine Evs_nil ?_
      refine Op_append k3' (by rw [List.length_take]; omega) ?_
      refine ⟨rfl, Ex_nil ⟨⟨kids ++ [D2], by rw [List.length_append, k1]; rfl, (g'.put (by simp)).put (by simp), ?_, ?_, ?_, ?_⟩, l1⟩⟩
      · rw [List.map_append]; exact upd_off upd_same n1
      · rw [repl_take hi]; exact upd_same
      · refine List.nodup_append.mpr ⟨k4, by simp, fun a ha b hb e => ?_⟩
        obtain rfl := List.mem_singleton.mp hb
        obtain ⟨p, hp'⟩ := List.getElem?_of_mem ha
        exact ne_at (k5 p a hp').2.2.2 hD2' e
      · intro p q e
        by_cases hp' : p < kids.length
        · rw [List.getElem?_append_left hp'] at e
          obtain ⟨a1, a2, a3, a4⟩ := k5 p q e
          exact ⟨a1, a2, a3, upd_off (upd_off (upd_at (upd_at a4 hD1) hD2) a2) a3⟩
        · rw [List.getElem?_append_right (by omega)] at e
          have : p - kids.length = 0 := by
            rcases Nat.eq_zero_or_pos (p - kids.length) with z | z
            · exact z
            · rw [List.getElem?_eq_none (by simp; omega)] at e; cases e
          rw [this] at e
          cases e
          obtain rfl : p = i := by omega
          exact ⟨gN _ hD2' dcs dsz, dcs, dsz, upd_off (upd_off upd_same dcs) dsz⟩
    · rw [List.take_of_length_le (by simp)] at k3
      exact ⟨rfl, ⟨kids, k1, g, k2, k3, k4, k5⟩, l1⟩
  rintro fl st ⟨rfl, ⟨kids, k1, g, k2, k3, k4, k5⟩, l1⟩
  have qx : st.hp x = some (.inst 148 dx) := g _ _ (by simp [nx.1, nx.2]) hx
  have qd : st.hp dx = some (.attrs (FA f cs sz pa pl)) := g _ _ (by simp [nd.1, nd.2]) hd
  have qf : st.hp f = some (.list (allF F ch)) := g _ _ (by simp [n2.symm, n3.symm]) hf
  obtain ⟨qn, eqn⟩ : ∃ q, kids[ch.length]? = some q := ⟨kids[ch.length]'(by omega), List.getElem?_eq_getElem _⟩
  obtain ⟨a1, a2, a3, a4⟩ := k5 _ _ eqn
  have kn : kidsAt ch ch.length = numbs ch.length 0 := by unfold kidsAt numbs; rw [if_pos rfl]; simp
  have sn : List.replicate (ch.length + 1) (AV.int 1) = sizesAt ch.length 0 := by unfold sizesAt; rw [List.replicate_succ']; rfl
  rw [kn] at a4
  rw [sn] at k3
  refine Ex_cons (Ex_For (Src_range ⟨rfl, rfl, rfl⟩ rfl (g_range hK) ?_))
  refine Ev_BinOp ?_
  refine Ev_CallB ⟨rfl, rfl, rfl⟩ rfl (g_len hK) rfl rfl ?_
  refine Evs_cons ?_
  refine Ev_Attr ?_
  refine Ev_loc ⟨rfl, rfl, rfl⟩ rfl l1 ?_
  refine Op_attr qx qd rfl (get_148_forms hK) (hasd_148 hK) (fnd_148_forms hK) (noGet0 hK) ?_
  refine Evs_nil ?_
  refine Op_lenL qf ?_
  refine Ev_int ?_
  refine Op_sub ?_
  refine ⟨ch.length, by rw [lF]; congr 1; omega, by omega, fun i st => (And5 (Gb [cs, sz] hp st.hp) (st.hp cs = some (.list (kids.map .ref))) (st.hp sz = some (.list (sizesAt ch.length i))) (st.hp qn = some (.list (numbs ch.length i))) (∀ p q, p < ch.length → kids[p]? = some q → st.hp q = some (.list []))) ∧ st.loc "self" = some (.ref x), ⟨⟨g, k2, k3, a4, fun p q hp' e => ?_⟩, l1⟩, fun i st hi ⟨⟨g, k2, k3, a4, k6⟩, l1⟩ => ⟨trivial, ?_⟩, fun st ⟨⟨g, k2, k3, a4, k6⟩, l1⟩ => ⟨trivial, ?_⟩⟩
  · have := (k5 p q e).2.2.2
    unfold kidsAt at this
    rwa [if_neg (by omega)] at this
  · have qx : st.hp x = some (.inst 148 dx) := g _ _ (by simp [nx.1, nx.2]) hx
    have qd : st.hp dx = some (.attrs (FA f cs sz pa pl)) := g _ _ (by simp [nd.1, nd.2]) hd
    have qp : st.hp pa = some (.list (allP ch)) := g _ _ (by simp [n4.symm, n6.symm]) hpa
    have ql : st.hp pl = some (.list (allQ ch)) := g _ _ (by simp [n5.symm, n7.symm]) hpl
    have pi : (allP ch)[i]? = some (.int ch.length) := by
      unfold allP; rw [List.getElem?_append_left (by rw [List.length_replicate]; exact hi), List.getElem?_replicate, if_pos hi]
    have li : (allQ ch)[i]? = some (.int i) := by
      unfold allQ; rw [List.getElem?_append_left (by rw [List.length_map, List.length_range]; exact hi)]; simp [hi]
    refine Un1_Name ?_
    refine Un_loc ⟨rfl, rfl, rfl⟩ rfl ?_
    refine Ex_cons ?_
    refine Ex_Assign ?_
    refine Ev_Sub ?_
    refine Ev_Attr ?_
    refine Ev_loc ⟨rfl, rfl, rfl⟩ rfl l1 ?_
    refine Op_attr qx qd rfl (get_148_parents hK) (hasd_148 hK) (fnd_148_parents hK) (noGet0 hK) ?_
    refine Ev_loc ⟨rfl, rfl, rfl⟩ rfl rfl ?_
    refine Op_subL qp (by omega) (by rw [Int.toNat_natCast]; exact pi) ?_
    refine Un_loc ⟨rfl, rfl, rfl⟩ rfl ?_
    refine Ex_cons ?_
    refine Ex_AssignSub ?_
    refine Ev_loc ⟨rfl, rfl, rfl⟩ rfl rfl ?_
    refine Ev_Sub ?_
    refine Ev_Attr ?_
    refine Ev_loc ⟨rfl, rfl, rfl⟩ rfl l1 ?_
    refine Op_attr qx qd rfl (get_148_children hK) (hasd_148 hK) (fnd_148_children hK) (noGet0 hK) ?_
    refine Ev_loc ⟨rfl, rfl, rfl⟩ rfl rfl ?_
    refine Op_subL k2 (by omega) (by rw [Int.toNat_natCast, List.getElem?_map, eqn]; rfl) ?_
    refine Ev_Sub ?_
    refine Ev_Attr ?_
    refine Ev_loc ⟨rfl, rfl, rfl⟩ rfl l1 ?_
    refine Op_attr qx qd rfl (get_148_places hK) (hasd_148 hK) (fnd_148_places hK) (noGet0 hK) ?_
    refine Ev_loc ⟨rfl, rfl, rfl⟩ rfl rfl ?_
    refine Op_subL ql (by omega) (by rw [Int.toNat_natCast]; exact li) ?_
    refine Un_setL a4 (by omega) (by rw [numbs_len (by omega)]; omega) ?_
    rw [Int.toNat_natCast, numbs_set hi]
    have qx1 : upd st.hp qn (.list (numbs ch.length (i + 1))) x = _ := upd_off qx (fun q => by rw [q] at hx; rw [hx] at a1; cases a1)
    have qd1 : upd st.hp qn (.list (numbs ch.length (i + 1))) dx = _ := upd_off qd (fun q => by rw [q] at hd; rw [hd] at a1; cases a1)
    have k3' : upd st.hp qn (.list (numbs ch.length (i + 1))) sz = _ := upd_off k3 (Ne.symm a3)
    have g' : Gb [cs, sz] hp (upd st.hp qn (.list (numbs ch.length (i + 1)))) := g.putN a1
    refine Ex_cons ?_
    refine Ex_AssignSub ?_
    refine Ev_BinOp ?_
    refine Ev_Sub ?_
    refine Ev_Attr ?_
    refine Ev_loc ⟨rfl, rfl, rfl⟩ rfl l1 ?_
    refine Op_attr qx1 qd1 rfl (get_148_sizes hK) (hasd_148 hK) (fnd_148_sizes hK) (noGet0 hK) ?_
    refine Ev_loc ⟨rfl, rfl, rfl⟩ rfl rfl ?_
    refine Op_subL k3' (by omega) (by rw [Int.toNat_natCast]; exact sizes_n _ _) ?_
    refine Ev_Sub ?_
    refine Ev_Attr ?_
    refine Ev_loc ⟨rfl, rfl, rfl⟩ rfl l1 ?_
    refine Op_attr qx1 qd1 rfl (get_148_sizes hK) (hasd_148 hK) (fnd_148_sizes hK) (noGet0 hK) ?_
    refine Ev_loc ⟨rfl, rfl, rfl⟩ rfl rfl ?_
    refine Op_subL k3' (by omega) (by rw [Int.toNat_natCast]; exact sizes_i hi) ?_
    refine Op_add ?_
    refine Ev_Attr ?_
    refine Ev_loc ⟨rfl, rfl, rfl⟩ rfl l1 ?_
    refine Op_attr qx1 qd1 rfl (get_148_sizes hK) (hasd_148 hK) (fnd_148_sizes hK) (noGet0 hK) ?_
    refine Ev_loc ⟨rfl, rfl, rfl⟩ rfl rfl ?_
    refine Un_setL k3' (by omega) (by rw [sizes_len]; omega) ?_
    rw [Int.toNat_natCast, sizes_set]
    refine Ex_nil ⟨⟨g'.put (by simp), upd_off (upd_off k2 (Ne.symm a2)) n1, upd_same, upd_off upd_same a3, fun p q hp' e => ?_⟩, l1⟩
    have nq : q ≠ qn := fun z => by
      subst z
      have := (List.getElem?_inj (l := kids) (i := p) (j := ch.length) (by omega) k4).mp (e.trans eqn.symm)
      omega
    exact upd_off (upd_off (k6 p q hp' e) nq) (k5 p q e).2.2.1
  · have en : numbs ch.length ch.length = (List.range ch.length).map (fun p : Nat => AV.int p) := by unfold numbs; simp
    rw [en] at a4
    refine Ex_nil (h _ g ⟨dx, f, cs, sz, pa, pl, kids, g _ _ (by simp [nx.1, nx.2]) hx, g _ _ (by simp [nd.1, nd.2]) hd, g _ _ (by simp [n2.symm, n3.symm]) hf, k2, k1, fun p hp' => ?_, ⟨qn, eqn, a4⟩, k3⟩)
    exact ⟨kids[p]'(by omega), List.getElem?_eq_getElem _, k6 p _ hp' (List.getElem?_eq_getElem _)⟩

theorem flat_ {N : Nat} {F ch : List AV} {k : AV → AH → Prop} {hp : AH} (W : FlatF F ch) (h : ∀ x hp', Grow hp hp' → Flat hp' x F ch → k (.ref x) hp') : Cal c (N + 4) (.ref 148) [.tup F] k hp := by
  refine Cal_cls (⟨⟨_, _, _, by rw [hK]; k_is⟩, by rw [hK]; k_is, by exact rfl, rfl, rfl, rfl, (by intro vs hv; obtain ⟨_, vs1, rfl, hv1⟩ := vlenS (n := 1) hv; obtain ⟨_, vs2, rfl, hv2⟩ := vlenS (n := 0) hv1; obtain rfl := vlen0 hv2; rfl), (by decide), allCons (by first | exact .inl rfl | exact .inr ⟨rfl, fun _ => rfl⟩) <| allCons (by first | exact .inl rfl | exact .inr ⟨rfl, fun _ => rfl⟩) <| allNil, rfl, rfl, rfl⟩ : Fn c 117 ⟨_, _, ⟨_, _, _, _, _, _, _⟩, .stmts (_ :: _), ⟨_, _, _, _, _⟩, _, _, _, _, _, _, _, _, _, _⟩ (_ :: _) ["self", "form"]) rfl (makes_148 hK) (init_148 hK) (initT_148 hK) fun x dx L hx hdx nxd nL1 nL2 hL => ?_
  have I : Ini hp x dx 148 [] [] (upd (upd hp dx (.attrs [])) x (.inst 148 dx)) := ⟨((Grow.refl hp).thenNew hdx).thenUpd hx, upd_same, upd_off upd_same nxd.symm, List.nodup_nil, by simp⟩
  refine Ex_cons ?_
  refine Ex_AssignAttr ?_
  refine Ev_List ?_
  refine Evs_nil ?_
  refine ⟨by simp, fun f hf => ?_⟩
  refine Ev_loc ⟨rfl, rfl, rfl⟩ rfl rfl ?_
  refine Un_setA (upd_at I.x hf) (upd_at I.d hf) (Nat.le_of_ble_eq_true rfl) (seta_148 hK) (over_148 hK) (tak_148_forms hK) (hasd_148 hK) ?_
  have I := I.step hdx nxd "forms" hf
  refine Ex_cons ?_
  refine Ex_AssignAttr ?_
  refine Ev_List ?_
  refine Evs_nil ?_
  refine ⟨by simp, fun cs hcs => ?_⟩
  refine Ev_loc ⟨rfl, rfl, rfl⟩ rfl rfl ?_
  refine Un_setA (upd_at I.x hcs) (upd_at I.d hcs) (Nat.le_of_ble_eq_true rfl) (seta_148 hK) (over_148 hK) (tak_148_children hK) (hasd_148 hK) ?_
  have I := I.step hdx nxd "children" hcs
  refine Ex_cons ?_
  refine Ex_AssignAttr ?_
  refine Ev_List ?_
  refine Evs_nil ?_
  refine ⟨by simp, fun sz hsz => ?_⟩
  refine Ev_loc ⟨rfl, rfl, rfl⟩ rfl rfl ?_
  refine Un_setA (upd_at I.x hsz) (upd_at I.d hsz) (Nat.le_of_ble_eq_true rfl) (seta_148 hK) (over_148 hK) (tak_148_sizes hK) (hasd_148 hK) ?_
  have I := I.step hdx nxd "sizes" hsz
  refine Ex_cons ?_
  refine Ex_AssignAttr ?_
  refine Ev_List ?_
  refine Evs_nil ?_
  refine ⟨by simp, fun pa hpa => ?_⟩
  refine Ev_loc ⟨rfl, rfl, rfl⟩ rfl rfl ?_
  refine Un_setA (upd_at I.x hpa) (upd_at I.d hpa) (Nat.le_of_ble_eq_true rfl) (seta_148 hK) (over_148 hK) (tak_148_parents hK) (hasd_148 hK) ?_
  have I := I.step hdx nxd "parents" hpa
  refine Ex_cons ?_
  refine Ex_AssignAttr ?_
  refine Ev_List ?_
  refine Evs_nil ?_
  refine ⟨by simp, fun pl hpl => ?_⟩
  refine Ev_loc ⟨rfl, rfl, rfl⟩ rfl rfl ?_
  refine Un_setA (upd_at I.x hpl) (upd_at I.d hpl) (Nat.le_of_ble_eq_true rfl) (seta_148 hK) (over_148 hK) (tak_148_places hK) (hasd_148 hK) ?_
  have I := I.step hdx nxd "places" hpl
  have nd : [f, cs, sz, pa, pl].Nodup := I.nd
  have e1 : ∀ a ∈ [f, cs, sz, pa, pl], _ := I.at_
  have ed := I.d
  have ex := I.x
  have eg := I.g
  clear I
  simp only [List.nodup_cons, List.mem_cons, List.not_mem_nil, or_false, not_or, not_false_eq_true, List.nodup_nil, and_true] at nd
  obtain ⟨⟨m1, m2, m3, m4⟩, ⟨m5, m6, m7⟩, ⟨m8, m9⟩, m10⟩ := nd
  obtain ⟨q1, z1⟩ := e1 f (by simp)
  obtain ⟨q2, z2⟩ := e1 cs (by simp)
  obtain ⟨q3, z3⟩ := e1 sz (by simp)
  obtain ⟨q4, z4⟩ := e1 pa (by simp)
  obtain ⟨q5, z5⟩ := e1 pl (by simp)
  refine Ex_cons (Ex_Expr (Ev_Meth (Ev_loc ⟨rfl, rfl, rfl⟩ rfl rfl ⟨_, Mth_inst ex ed rfl (get_148_gather hK) (fnd_148_gather hK) (isf_124 hK), keeps_K (keep_124 hK), ?_⟩)))
  refine Evs_cons ?_
  refine Ev_loc ⟨rfl, rfl, rfl⟩ rfl rfl ?_
  refine Evs_nil ?_
  refine OpL_Cal (gather_ (f := f) (cs := cs) (sz := sz) (pa := pa) (pl := pl) hK W ex ed q1 q4 q5 m3 m4 m10 fun hp1 g1 a1 a2 a3 => ?_)
  have nl : ∀ (y : Addr) (o : AO), (∀ l, o ≠ .list l) → _ = some o → And5 (y ≠ f) (y ≠ cs) (y ≠ sz) (y ≠ pa) (y ≠ pl) := fun y o hne e => ⟨ne_val e q1 (hne _), ne_val e q2 (hne _), ne_val e q3 (hne _), ne_val e q4 (hne _), ne_val e q5 (hne _)⟩
  obtain ⟨x1, x2, x3, x4, x5⟩ := nl x _ (by intro l z; cases z) ex
  obtain ⟨y1, y2, y3, y4, y5⟩ := nl dx _ (by intro l z; cases z) ed
  have ex1 := g1 _ _ (by simp [x1, x4, x5]) ex
  have ed1 := g1 _ _ (by simp [y1, y4, y5]) ed
  have c1 := g1 _ _ (by simp [Ne.symm m1, m6, m7]) q2
  have s1 := g1 _ _ (by simp [Ne.symm m2, m8, m9]) q3
  refine ⟨rfl, Ex_cons (Ex_Expr (Ev_Meth0 (Ev_loc ⟨rfl, rfl, rfl⟩ rfl rfl ⟨_, Mth_inst ex1 ed1 rfl (get_148_measure hK) (fnd_148_measure hK) (isf_131 hK), keeps_K (keep_131 hK), ?_⟩)))⟩
  refine OpL_Cal (measure_ (f := f) (cs := cs) (sz := sz) (pa := pa) (pl := pl) hK W ex1 ed1 a1 c1 s1 a2 a3 m5 (Ne.symm m1) (Ne.symm m2) m6 m7 m8 m9 fun hp2 g2 fl => ⟨rfl, Ex_nil ⟨rfl, h x hp2 (fun b o e => ?_) fl⟩⟩)
  have nb : ∀ y, hp y = none → b ≠ y := fun y z q => by rw [q, z] at e; cases e
  exact g2 _ _ (by simp [nb cs z2, nb sz z3]) (g1 _ _ (by simp [nb f z1, nb pa z4, nb pl z5]) (eg _ _ e))

theorem top_ {N : Nat} {x : Addr} {F ch : List AV} {k : AV → AH → Prop} {hp : AH} (W : Flat hp x F ch) (h : k (.int ch.length) hp) : Cal c (N + 1) (.ref 138) [.ref x] k hp := by
  obtain ⟨dx, f, cs, sz, pa, pl, kids, h1, h2, h3, h4, h5, h6, h7, h8⟩ := W
  refine Cal_fn (⟨⟨_, _, _, by rw [hK]; k_is⟩, by rw [hK]; k_is, by exact rfl, rfl, rfl, rfl, (by intro vs hv; obtain ⟨_, vs1, rfl, hv1⟩ := vlenS (n := 0) hv; obtain rfl := vlen0 hv1; rfl), (by decide), allCons (by first | exact .inl rfl | exact .inr ⟨rfl, fun _ => rfl⟩) <| allNil, rfl, rfl, rfl⟩ : Fn c 138 ⟨_, _, ⟨_, _, _, _, _, _, _⟩, .stmts (_ :: _), ⟨_, _, _, _, _⟩, _, _, _, _, _, _, _, _, _, _⟩ (_ :: _) ["self"]) rfl fun L hL => ?_
  refine Ex_cons ?_
  refine Ex_Return ?_
  refine Ev_BinOp ?_
  refine Ev_CallB ⟨rfl, rfl, rfl⟩ rfl (g_len hK) rfl rfl ?_
  refine Evs_cons ?_
  refine Ev_Attr ?_
  refine Ev_loc ⟨rfl, rfl, rfl⟩ rfl rfl ?_
  refine Op_attr h1 h2 rfl (get_148_forms hK) (hasd_148 hK) (fnd_148_forms hK) (noGet0 hK) ?_
  refine Evs_nil ?_
  refine Op_lenL h3 ?_
  refine Ev_int ?_
  refine Op_sub ?_
  have e : ((allF F ch).length : Int) - 1 = ch.length := by unfold allF; simp
  rw [e]
  exact h
end
end Mu
end
noncomputable section
open PySem PySem.W PySem.Calls PyProof.Rows
set_option Elab.async false
set_option linter.unusedVariables false
set_option maxRecDepth 100000
set_option maxHeartbeats 4000000
namespace Mu
/-- one cell of the table -/
def tstep (up left diag : Int) : Option Int → Int
  | none => min (up + 1) (left + 1)
  | some k => if diag + k < min (up + 1) (left + 1) then diag + k else min (up + 1) (left + 1)
def T (K : Nat → Nat → Option Int) : Nat → Nat → Int
  | 0 => fun q => q
  | p + 1 => fun q => Nat.rec (T K p 0 + 1) (fun q prev => tstep (T K p (q + 1)) prev (T K p q) (K p q)) q
theorem T_0 (K : Nat → Nat → Option Int) (q : Nat) : T K 0 q = q := rfl
theorem T_s0 (K : Nat → Nat → Option Int) (p : Nat) : T K (p + 1) 0 = T K p 0 + 1 := rfl
theorem T_ss (K : Nat → Nat → Option Int) (p q : Nat) : T K (p + 1) (q + 1) = tstep (T K p (q + 1)) (T K (p + 1) q) (T K p q) (K p q) := rfl
def trow (K : Nat → Nat → Option Int) (Q p : Nat) : List AV := (List.range (Q + 1)).map fun q => .int (T K p q)
theorem trow_at {K : Nat → Nat → Option Int} {Q p q : Nat} (h : q ≤ Q) : (trow K Q p)[q]? = some (.int (T K p q)) := by
  unfold trow; rw [List.getElem?_map, List.getElem?_range (by omega)]; rfl
theorem trow_len (K : Nat → Nat → Option Int) (Q p : Nat) : (trow K Q p).length = Q + 1 := by unfold trow; simp
theorem trow_succ (K : Nat → Nat → Option Int) (Q p : Nat) : trow K (Q + 1) p = trow K Q p ++ [.int (T K p (Q + 1))] := by
  unfold trow; rw [List.range_succ, List.map_append]; rfl
theorem trow_last (K : Nat → Nat → Option Int) (Q p : Nat) : (trow K Q p).getLast? = some (.int (T K p Q)) := by
  cases Q with
  | zero => rfl
  | succ Q => rw [trow_succ, List.getLast?_concat]

def MA (one other cd : Addr) : List (Str × AV) := [("one", .ref one), ("other", .ref other), ("costs", .ref cd)]
/-- how many children the number has -/
def full (n i : Nat) : Nat := if i = n then n else 0
theorem Flat.kid {hp : AH} {x : Addr} {F ch : List AV} {dx cs : Addr} {kids : List Addr} {i : Nat} (h5 : kids.length = ch.length + 1) (h6 : ∀ p, p < ch.length → ∃ q, kids[p]? = some q ∧ hp q = some (.list []))
    (h7 : ∃ q, kids[ch.length]? = some q ∧ hp q = some (.list ((List.range ch.length).map (fun p : Nat => AV.int p)))) (hi : i ≤ ch.length) : ∃ q, (kids.map AV.ref)[i]? = some (.ref q) ∧ hp q = some (.list ((List.range (full ch.length i)).map (fun p : Nat => AV.int p))) := by
  unfold full
  by_cases e : i = ch.length
  · obtain ⟨q, a, b⟩ := h7
    exact ⟨q, by rw [List.getElem?_map, e, a]; rfl, by rw [if_pos e]; exact b⟩
  · obtain ⟨q, a, b⟩ := h6 i (by omega)
    exact ⟨q, by rw [List.getElem?_map, a]; rfl, by rw [if_neg e]; exact b⟩

/-- rows of the table so far -/
structure Tb (hp : AH) (K : Nat → Nat → Option Int) (Q : Nat) (r : Addr) (rows : List Addr) (q : AH) : Prop where
  g : Grow hp q
  at_ : q r = some (.list (rows.map .ref))
  r0 : hp r = none
  rows_ : ∀ p a, rows[p]? = some a → hp a = none ∧ a ≠ r ∧ q a = some (.list (trow K Q p))
theorem Tb.new {hp q : AH} {K : Nat → Nat → Option Int} {Q : Nat} {r : Addr} {rows : List Addr} (h : Tb hp K Q r rows q) {x : Addr} {o : AO} (hx : q x = none) : Tb hp K Q r rows (upd q x o) :=
  ⟨h.g.thenNew hx, upd_at h.at_ hx, h.r0, fun p a e => let ⟨h1, h2, h3⟩ := h.rows_ p a e; ⟨h1, h2, upd_at h3 hx⟩⟩
theorem Tb.put {hp q : AH} {K : Nat → Nat → Option Int} {Q : Nat} {r : Addr} {rows : List Addr} (h : Tb hp K Q r rows q) {x : Addr} {o : AO} (h0 : hp x = none) (hr : x ≠ r) (hx : x ∉ rows) : Tb hp K Q r rows (upd q x o) :=
  ⟨h.g.thenUpd h0, upd_off h.at_ (Ne.symm hr), h.r0, fun p a e => let ⟨h1, h2, h3⟩ := h.rows_ p a e; ⟨h1, h2, upd_off h3 (fun z => hx (z ▸ List.mem_of_getElem? e))⟩⟩
theorem Tb.push {hp q : AH} {K : Nat → Nat → Option Int} {Q : Nat} {r : Addr} {rows : List Addr} (h : Tb hp K Q r rows q) {x : Addr} (h0 : hp x = none) (hr : x ≠ r) (hx : q x = some (.list (trow K Q rows.length))) : Tb hp K Q r (rows ++ [x]) (upd q r (.list (rows.map .ref ++ [.ref x]))) :=
  ⟨h.g.thenUpd h.r0, by rw [List.map_append]; exact upd_same, h.r0, fun p a e => by
    by_cases hp' : p < rows.length
    · rw [List.getElem?_append_left hp'] at e
      obtain ⟨h1, h2, h3⟩ := h.rows_ p a e
      exact ⟨h1, h2, upd_off h3 h2⟩
    · rw [List.getElem?_append_right (by omega)] at e
      have : p - rows.length = 0 := by
        rcases Nat.eq_zero_or_pos (p - rows.length) with z | z
        · exact z
        · rw [List.getElem?_eq_none (by simp; omega)] at e; cases e
      rw [this] at e; cases e
      obtain rfl : p = rows.length := by omega
      exact ⟨h0, hr, upd_off hx hr⟩⟩
theorem range_at {n i : Nat} (h : i < n) : ((List.range n).map (fun p : Nat => AV.int p))[i]? = some (.int i) := by simp [h]

section
variable {c : Cx} {P : Params} (hK : c.K = KK P)
include hK

theorem table_ {N : Nat} {m dm cd one other : Addr} {F1 c1 F2 c2 : List AV} {es : List (List Int × AV)} {K : Nat → Nat → Option Int} {i j : Nat} {k : AV → AH → Prop} {hp : AH} (hm : hp m = some (.inst 85 dm)) (hdm : hp dm = some (.attrs (MA one other cd))) (hc : hp cd = some (.dictI es))
    (W1 : Flat hp one F1 c1) (W2 : Flat hp other F2 c2) (b1 : c1.length ≤ 900) (b2 : c2.length ≤ 900) (hi : i ≤ c1.length) (hj : j ≤ c2.length) (hk : ∀ p q : Nat, p < full c1.length i → q < full c2.length j → (dget es [(p : Int), (q : Int)]).getD .none = match K p q with | some k => .int k | none => .none)
    (h : ∀ r rows hp', Tb hp K (full c2.length j) r rows hp' → rows.length = full c1.length i + 1 → k (.ref r) hp') : Cal c (N + 1) (.ref 61) [.ref m, .int i, .int j] k hp := by
  obtain ⟨d1, f1, cs1, sz1, pa1, pl1, kids1, x1, y1, z1, u1, v1, w1, a1, s1⟩ := W1
  obtain ⟨d2, f2, cs2, sz2, pa2, pl2, kids2, x2, y2, z2, u2, v2, w2, a2, s2⟩ := W2
  obtain ⟨q1, k1, o1⟩ := Flat.kid (x := 0) (F := []) (dx := 0) (cs := 0) v1 w1 a1 hi
  obtain ⟨q2, k2, o2⟩ := Flat.kid (x := 0) (F := []) (dx := 0) (cs := 0) v2 w2 a2 hj
  have fP : full c1.length i ≤ c1.length := by unfold full; split <;> omega
  have fQ : full c2.length j ≤ c2.length := by unfold full; split <;> omega
  generalize full c1.length i = PP at *
  generalize full c2.length j = QQ at *
  refine Cal_fn (⟨⟨_, _, _, by rw [hK]; k_is⟩, by rw [hK]; k_is, by exact rfl, rfl, rfl, rfl, (by intro vs hv; obtain ⟨_, vs1, rfl, hv1⟩ := vlenS (n := 2) hv; obtain ⟨_, vs2, rfl, hv2⟩ := vlenS (n := 1) hv1; obtain ⟨_, vs3, rfl, hv3⟩ := vlenS (n := 0) hv2; obtain rfl := vlen0 hv3; rfl), (by decide), allCons (by first | exact .inl rfl | exact .inr ⟨rfl, fun _ => rfl⟩) <| allCons (by first | exact .inl rfl | exact .inr ⟨rfl, fun _ => rfl⟩) <| allCons (by first | exact .inl rfl | exact .inr ⟨rfl, fun _ => rfl⟩) <| allNil, rfl, rfl, rfl⟩ : Fn c 61 ⟨_, _, ⟨_, _, _, _, _, _, _⟩, .stmts (_ :: _), ⟨_, _, _, _, _⟩, _, _, _, _, _, _, _, _, _, _⟩ (_ :: _) ["self", "i", "j"]) rfl fun L hL => ?_
  refine Ex_cons ?_
  refine Ex_AssignSwap ?_
  refine Ev_Tuple ?_
  refine Evs_cons ?_
  refine Ev_Sub ?_
  refine Ev_Attr ?_
  refine Ev_Attr ?_
  refine Ev_loc ⟨rfl, rfl, rfl⟩ rfl rfl ?_
  refine Op_attr hm hdm rfl (get_85_one hK) (hasd_85 hK) (fnd_85_one hK) (noGet0 hK) ?_
  refine Op_attr x1 y1 rfl (get_148_children hK) (hasd_148 hK) (fnd_148_children hK) (noGet0 hK) ?_
  refine Ev_loc ⟨rfl, rfl, rfl⟩ rfl rfl ?_
  refine Op_subL u1 (by omega) (by rw [Int.toNat_natCast]; exact k1) ?_
  refine Evs_cons ?_
  refine Ev_Sub ?_
  refine Ev_Attr ?_
  refine Ev_Attr ?_
  refine Ev_loc ⟨rfl, rfl, rfl⟩ rfl rfl ?_
  refine Op_attr hm hdm rfl (get_85_other hK) (hasd_85 hK) (fnd_85_other hK) (noGet0 hK) ?_
  refine Op_attr x2 y2 rfl (get_148_children hK) (hasd_148 hK) (fnd_148_children hK) (noGet0 hK) ?_
  refine Ev_loc ⟨rfl, rfl, rfl⟩ rfl rfl ?_
  refine Op_subL u2 (by omega) (by rw [Int.toNat_natCast]; exact k2) ?_
  refine Evs_nil ?_
  refine ⟨by simp, _, rfl, rfl, ?_⟩
  refine UnL_cons ?_
  refine Un1_bind ?_
  refine Un_loc ⟨rfl, rfl, rfl⟩ rfl ?_
  refine UnL_cons ?_
  refine Un1_bind ?_
  refine Un_loc ⟨rfl, rfl, rfl⟩ rfl ?_
  refine UnL_nil ?_
  refine Ex_cons ?_
  refine Ex_Assign ?_
  refine Ev_List ?_
  refine Evs_cons ?_
  refine Ev_List ?_
  refine Evs_cons ?_
  refine Ev_int ?_
  refine Evs_nil ?_
  refine ⟨by simp, fun a0 ha0 => Evs_nil ⟨by simp, fun r hr => ?_⟩⟩
  refine Un_loc ⟨rfl, rfl, rfl⟩ rfl ?_
  have ha0' : hp a0 = none := ha0
  have na : a0 ≠ r := ne_at upd_same hr
  have hr0 : hp r = none := (Grow.new ha0').gone hr
  have rl : ∀ n : Nat, ((List.range n).map (fun p : Nat => AV.int p)).length = n := fun n => by simp
  refine Ex_cons (Ex_For (Src_list (Ev_loc ⟨rfl, rfl, rfl⟩ rfl rfl ⟨q2, _, rfl, upd_at (upd_at o2 ha0) hr, fun t st => And5 (And3 (Grow hp st.hp) (st.hp r = some (.list [.ref a0])) (st.hp a0 = some (.list (trow K t 0)))) (st.loc "rows" = some (.ref r)) (st.loc "self" = some (.ref m)) (st.loc "ours" = some (.ref q1)) (st.loc "theirs" = some (.ref q2)),
    ⟨⟨((Grow.refl hp).thenNew ha0').thenNew hr, upd_same, upd_at upd_same hr⟩, rfl, rfl, rfl, rfl⟩, fun t st ht ⟨⟨g, e1, e2⟩, l1, l2, l3, l4⟩ => ⟨g _ _ o2, ?_⟩, fun st ⟨⟨g, e1, e2⟩, l1, l2, l3, l4⟩ => ⟨g _ _ o2, ?_⟩⟩)))
  · rw [rl] at ht
    have eg : ((List.range QQ).map (fun p : Nat => AV.int p)).getD t .none = .int t := by rw [List.getD_eq_getElem?_getD, range_at ht]; rfl
    refine Un1_of eg ?_
    refine Un1_Name ?_
    refine Un_loc ⟨rfl, rfl, rfl⟩ rfl ?_
    refine Ex_cons (Ex_Expr (Ev_Meth (Ev_Sub (Ev_loc ⟨rfl, rfl, rfl⟩ rfl l1 (Ev_int (Op_subL e1 (by decide) rfl ⟨_, Mth_append e2, fun h _ => plainF_keeps rfl h, ?_⟩))))))
    refine Evs_cons ?_
    refine Ev_BinOp ?_
    refine Ev_Sub ?_
    refine Ev_Sub ?_
    refine Ev_loc ⟨rfl, rfl, rfl⟩ rfl l1 ?_
    refine Ev_int ?_
    refine Op_subL e1 (by decide) rfl ?_
    refine Ev_UnaryOp ?_
    refine Ev_int ?_
    refine Op_neg ?_
    refine Op_subLlast e2 (trow_last K t 0) ?_
    refine Ev_Sub ?_
    refine Ev_Attr ?_
    refine Ev_Attr ?_
    refine Ev_loc ⟨rfl, rfl, rfl⟩ rfl l2 ?_
    refine Op_attr (g _ _ hm) (g _ _ hdm) rfl (get_85_other hK) (hasd_85 hK) (fnd_85_other hK) (noGet0 hK) ?_
    refine Op_attr (g _ _ x2) (g _ _ y2) rfl (get_148_sizes hK) (hasd_148 hK) (fnd_148_sizes hK) (noGet0 hK) ?_
    refine Ev_loc ⟨rfl, rfl, rfl⟩ rfl rfl ?_
    refine Op_subL (g _ _ s2) (by omega) (by rw [Int.toNat_natCast]; exact sizes_i (by omega)) ?_
    refine Op_add ?_
    refine Evs_nil ?_
    refine Op_append e2 (by rw [trow_len]; omega) ?_
    refine ⟨rfl, Ex_nil ⟨⟨g.thenUpd ha0', upd_off e1 na.symm, ?_⟩, l1, l2, l3, l4⟩⟩
    rw [trow_succ]
    exact upd_same
  rw [rl] at e2
  have tb : Tb hp K QQ r [a0] st.hp := ⟨g, e1, hr0, fun p a e => by
    cases p with
    | zero => cases e; exact ⟨ha0', na, e2⟩
    | succ p => cases e⟩
  refine Ex_cons (Ex_For (Src_range ⟨rfl, rfl, rfl⟩ rfl (g_range hK) ?_))
  refine Ev_CallB ⟨rfl, rfl, rfl⟩ rfl (g_len hK) rfl rfl ?_
  refine Evs_cons ?_
  refine Ev_loc ⟨rfl, rfl, rfl⟩ rfl l3 ?_
  refine Evs_nil ?_
  refine Op_lenL (g _ _ o1) ?_
  refine ⟨PP, by rw [rl], by omega, fun p st => And5 (∃ rows : List Addr, rows.length = p + 1 ∧ Tb hp K QQ r rows st.hp) (st.loc "rows" = some (.ref r)) (st.loc "self" = some (.ref m)) (st.loc "ours" = some (.ref q1)) (st.loc "theirs" = some (.ref q2)), ⟨⟨[a0], rfl, tb⟩, l1, l2, l3, l4⟩, fun p st hp' ⟨⟨rows, lr, tb⟩, l1, l2, l3, l4⟩ => ⟨trivial, ?_⟩, fun st ⟨⟨rows, lr, tb⟩, l1, l2, l3, l4⟩ => ⟨trivial, Ex_cons (Ex_Return (Ev_loc ⟨rfl, rfl, rfl⟩ rfl l1 (h r rows _ tb lr)))⟩⟩
  have g := tb.g
  obtain ⟨wp, ewp⟩ : ∃ a, rows[p]? = some a := ⟨rows[p]'(by omega), List.getElem?_eq_getElem _⟩
  obtain ⟨wp0, wpr, wpv⟩ := tb.rows_ _ _ ewp
  have rowAt : (rows.map AV.ref)[p]? = some (.ref wp) := by rw [List.getElem?_map, ewp]; rfl
  refine Un1_Name ?_
  refine Un_loc ⟨rfl, rfl, rfl⟩ rfl ?_
  refine Ex_cons ?_
  refine Ex_Assign ?_
  refine Ev_Sub ?_
  refine Ev_Attr ?_
  refine Ev_Attr ?_
  refine Ev_loc ⟨rfl, rfl, rfl⟩ rfl l2 ?_
  refine Op_attr (g _ _ hm) (g _ _ hdm) rfl (get_85_one hK) (hasd_85 hK) (fnd_85_one hK) (noGet0 hK) ?_
  refine Op_attr (g _ _ x1) (g _ _ y1) rfl (get_148_sizes hK) (hasd_148 hK) (fnd_148_sizes hK) (noGet0 hK) ?_
  refine Ev_Sub ?_
  refine Ev_loc ⟨rfl, rfl, rfl⟩ rfl l3 ?_
  refine Ev_loc ⟨rfl, rfl, rfl⟩ rfl rfl ?_
  refine Op_subL (g _ _ o1) (by omega) (by rw [Int.toNat_natCast]; exact range_at hp') ?_
  refine Op_subL (g _ _ s1) (by omega) (by rw [Int.toNat_natCast]; exact sizes_i (by omega)) ?_
  refine Un_loc ⟨rfl, rfl, rfl⟩ rfl ?_
  refine Ex_cons ?_
  refine Ex_Assign ?_
  refine Ev_List ?_
  refine Evs_cons ?_
  refine Ev_BinOp ?_
  refine Ev_Sub ?_
  refine Ev_Sub ?_
  refine Ev_loc ⟨rfl, rfl, rfl⟩ rfl l1 ?_
  refine Ev_loc ⟨rfl, rfl, rfl⟩ rfl rfl ?_
  refine Op_subL tb.at_ (by omega) (by rw [Int.toNat_natCast]; exact rowAt) ?_
  refine Ev_int ?_
  refine Op_subL wpv (by decide) (trow_at (Nat.zero_le _)) ?_
  refine Ev_loc ⟨rfl, rfl, rfl⟩ rfl rfl ?_
  refine Op_add ?_
  refine Evs_nil ?_
  refine ⟨by simp, fun w hw => ?_⟩
  refine Un_loc ⟨rfl, rfl, rfl⟩ rfl ?_
  have hw' : st.hp w = none := hw
  have w0 : hp w = none := g.gone hw'
  have wr : w ≠ r := (ne_at tb.at_ hw').symm
  have wn : w ∉ rows := fun z => by
    obtain ⟨p', e'⟩ := List.getElem?_of_mem z
    have := (tb.rows_ _ _ e').2.2
    rw [hw'] at this; cases this
  refine Ex_cons (Ex_For (Src_range ⟨rfl, rfl, rfl⟩ rfl (g_range hK) ?_))
  refine Ev_CallB ⟨rfl, rfl, rfl⟩ rfl (g_len hK) rfl rfl ?_
  refine Evs_cons ?_
  refine Ev_loc ⟨rfl, rfl, rfl⟩ rfl l4 ?_
  refine Evs_nil ?_
  refine Op_lenL (upd_at (g _ _ o2) hw') ?_
  refine ⟨QQ, by rw [rl], by omega, fun q st => And8 (Tb hp K QQ r rows st.hp ∧ st.hp w = some (.list (trow K q (p + 1)))) (st.loc "rows" = some (.ref r)) (st.loc "self" = some (.ref m)) (st.loc "ours" = some (.ref q1)) (st.loc "theirs" = some (.ref q2)) (st.loc "p" = some (.int p)) (st.loc "size" = some (.int 1)) (st.loc "row" = some (.ref w)), ⟨⟨tb.new hw', upd_same⟩, l1, l2, l3, l4, rfl, rfl, rfl⟩, fun q st hq ⟨⟨tb, ew⟩, l1, l2, l3, l4, l5, l6, l7⟩ => ⟨trivial, ?_⟩, fun st ⟨⟨tb, ew⟩, l1, l2, l3, l4, l5, l6, l7⟩ => ⟨trivial, ?_⟩⟩
  · have g := tb.g
    have wpv := (tb.rows_ _ _ ewp).2.2
    refine Un1_Name ?_
    refine Un_loc ⟨rfl, rfl, rfl⟩ rfl ?_
    refine Ex_cons ?_
    refine Ex_Assign ?_
    refine Ev_CallB ⟨rfl, rfl, rfl⟩ rfl (g_min hK) rfl rfl ?_
    refine Evs_cons ?_
    refine Ev_CallB ⟨rfl, rfl, rfl⟩ rfl (g_int hK) rfl rfl ?_
    refine Evs_cons ?_
    refine Ev_BinOp ?_
    refine Ev_Sub ?_
    refine Ev_Sub ?_
    refine Ev_loc ⟨rfl, rfl, rfl⟩ rfl l1 ?_
    refine Ev_loc ⟨rfl, rfl, rfl⟩ rfl l5 ?_
    refine Op_subL tb.at_ (by omega) (by rw [Int.toNat_natCast]; exact rowAt) ?_
    refine Ev_BinOp ?_
    refine Ev_loc ⟨rfl, rfl, rfl⟩ rfl rfl ?_
    refine Ev_int ?_
    refine Op_add ?_
    refine Op_subL wpv (by omega) (by rw [show ((q : Int) + 1).toNat = q + 1 by omega]; exact trow_at (by omega)) ?_
    refine Ev_loc ⟨rfl, rfl, rfl⟩ rfl l6 ?_
    refine Op_add ?_
    refine Evs_nil ?_
    refine Op_intI ?_
    refine Evs_cons ?_
    refine Ev_CallB ⟨rfl, rfl, rfl⟩ rfl (g_int hK) rfl rfl ?_
    refine Evs_cons ?_
    refine Ev_BinOp ?_
    refine Ev_Sub ?_
    refine Ev_loc ⟨rfl, rfl, rfl⟩ rfl l7 ?_
    refine Ev_loc ⟨rfl, rfl, rfl⟩ rfl rfl ?_
    refine Op_subL ew (by omega) (by rw [Int.toNat_natCast]; exact trow_at (Nat.le_refl _)) ?_
    refine Ev_Sub ?_
    refine Ev_Attr ?_
    refine Ev_Attr ?_
    refine Ev_loc ⟨rfl, rfl, rfl⟩ rfl l2 ?_
    refine Op_attr (g _ _ hm) (g _ _ hdm) rfl (get_85_other hK) (hasd_85 hK) (fnd_85_other hK) (noGet0 hK) ?_
    refine Op_attr (g _ _ x2) (g _ _ y2) rfl (get_148_sizes hK) (hasd_148 hK) (fnd_148_sizes hK) (noGet0 hK) ?_
    refine Ev_Sub ?_
    refine Ev_loc ⟨rfl, rfl, rfl⟩ rfl l4 ?_
    refine Ev_loc ⟨rfl, rfl, rfl⟩ rfl rfl ?_
    refine Op_subL (g _ _ o2) (by omega) (by rw [Int.toNat_natCast]; exact range_at hq) ?_
    refine Op_subL (g _ _ s2) (by omega) (by rw [Int.toNat_natCast]; exact sizes_i (by omega)) ?_
    refine Op_add ?_
    refine Evs_nil ?_
    refine Op_intI ?_
    refine Evs_nil ?_
    refine Op_min ?_
    refine Un_loc ⟨rfl, rfl, rfl⟩ rfl ?_
    refine Ex_cons ?_
    refine Ex_Assign ?_
    refine Ev_Meth (Ev_Attr (Ev_loc ⟨rfl, rfl, rfl⟩ rfl l2 (Op_attr (g _ _ hm) (g _ _ hdm) rfl (get_85_costs hK) (hasd_85 hK) (fnd_85_costs hK) (noGet0 hK) ⟨_, Mth_getI (g _ _ hc), fun h _ => plainF_keeps rfl h, ?_⟩)))
    refine Evs_cons ?_
    refine Ev_Tuple ?_
    refine Evs_cons ?_
    refine Ev_Sub ?_
    refine Ev_loc ⟨rfl, rfl, rfl⟩ rfl l3 ?_
    refine Ev_loc ⟨rfl, rfl, rfl⟩ rfl l5 ?_
    refine Op_subL (g _ _ o1) (by omega) (by rw [Int.toNat_natCast]; exact range_at hp') ?_
    refine Evs_cons ?_
    refine Ev_Sub ?_
    refine Ev_loc ⟨rfl, rfl, rfl⟩ rfl l4 ?_
    refine Ev_loc ⟨rfl, rfl, rfl⟩ rfl rfl ?_
    refine Op_subL (g _ _ o2) (by omega) (by rw [Int.toNat_natCast]; exact range_at hq) ?_
    refine Evs_nil ?_
    refine ⟨by simp, Evs_nil (Op_getI (ks := [(p : Int), (q : Int)]) (g _ _ hc) ?_)⟩
    refine Un_loc ⟨rfl, rfl, rfl⟩ rfl ?_
    rw [hk p q hp' hq]
    have fin : ∀ v : Int, v = T K (p + 1) (q + 1) → Tb hp K QQ r rows (upd st.hp w (.list (trow K q (p + 1) ++ [.int v]))) ∧ upd st.hp w (.list (trow K q (p + 1) ++ [.int v])) w = some (.list (trow K (q + 1) (p + 1))) := fun v ev => by
      rw [ev, ← trow_succ]
      exact ⟨tb.put w0 wr wn, upd_same⟩
    have eT := T_ss K p q
    have len : (trow K q (p + 1)).length < 100000 := by rw [trow_len]; omega
    cases ek : K p q with
    | none =>
      rw [ek] at eT
      refine Ex_cons (Ex_If (Tst_And2 (Tst_Compare (Ev_loc ⟨rfl, rfl, rfl⟩ rfl rfl (Ev_none (Op_isNotNone ⟨_, rfl, fun _ => ⟨fun e => (by cases e), fun _ => Ex_nil ?_⟩, fun e => (by cases e)⟩))))))
      refine Ex_cons (Ex_Expr (Ev_Meth (Ev_loc ⟨rfl, rfl, rfl⟩ rfl l7 ⟨_, Mth_append ew, fun h _ => plainF_keeps rfl h, ?_⟩)))
      refine Evs_cons ?_
      refine Ev_loc ⟨rfl, rfl, rfl⟩ rfl rfl ?_
      refine Evs_nil ?_
      refine Op_append ew len ?_
      exact ⟨rfl, Ex_nil ⟨fin _ eT.symm, l1, l2, l3, l4, l5, l6, l7⟩⟩
    | some kk =>
      replace eT : T K (p + 1) (q + 1) = if T K p q + kk < min (T K p (q + 1) + 1) (T K (p + 1) q + 1) then T K p q + kk else min (T K p (q + 1) + 1) (T K (p + 1) q + 1) := by rw [T_ss, ek]; rfl
      refine Ex_cons (Ex_If (Tst_And2 (Tst_Compare (Ev_loc ⟨rfl, rfl, rfl⟩ rfl rfl (Ev_none (Op_isNotNone ⟨_, rfl, fun e => (by cases e), fun _ => ?_⟩))))))
      refine Tst_Compare ?_
      refine Ev_BinOp ?_
      refine Ev_Sub ?_
      refine Ev_Sub ?_
      refine Ev_loc ⟨rfl, rfl, rfl⟩ rfl l1 ?_
      refine Ev_loc ⟨rfl, rfl, rfl⟩ rfl l5 ?_
      refine Op_subL tb.at_ (by omega) (by rw [Int.toNat_natCast]; exact rowAt) ?_
      refine Ev_loc ⟨rfl, rfl, rfl⟩ rfl rfl ?_
      refine Op_subL wpv (by omega) (by rw [Int.toNat_natCast]; exact trow_at (by omega)) ?_
      refine Ev_loc ⟨rfl, rfl, rfl⟩ rfl rfl ?_
      refine Op_add ?_
      refine Ev_loc ⟨rfl, rfl, rfl⟩ rfl rfl ?_
      refine Op_lt ?_
      refine ⟨_, rfl, fun hb => ?_, fun hb => ?_⟩
      · rw [if_pos (of_decide_eq_true hb)] at eT
        refine Ex_cons ?_
        refine Ex_Assign ?_
        refine Ev_BinOp ?_
        refine Ev_Sub ?_
        refine Ev_Sub ?_
        refine Ev_loc ⟨rfl, rfl, rfl⟩ rfl l1 ?_
        refine Ev_loc ⟨rfl, rfl, rfl⟩ rfl l5 ?_
        refine Op_subL tb.at_ (by omega) (by rw [Int.toNat_natCast]; exact rowAt) ?_
        refine Ev_loc ⟨rfl, rfl, rfl⟩ rfl rfl ?_
        refine Op_subL wpv (by omega) (by rw [Int.toNat_natCast]; exact trow_at (by omega)) ?_
        refine Ev_loc ⟨rfl, rfl, rfl⟩ rfl rfl ?_
        refine Op_add ?_
        refine Un_loc ⟨rfl, rfl, rfl⟩ rfl ?_
        refine Ex_nil ?_
        refine Ex_cons (Ex_Expr (Ev_Meth (Ev_loc ⟨rfl, rfl, rfl⟩ rfl l7 ⟨_, Mth_append ew, fun h _ => plainF_keeps rfl h, ?_⟩)))
        refine Evs_cons ?_
        refine Ev_loc ⟨rfl, rfl, rfl⟩ rfl rfl ?_
        refine Evs_nil ?_
        refine Op_append ew len ?_
        exact ⟨rfl, Ex_nil ⟨fin _ eT.symm, l1, l2, l3, l4, l5, l6, l7⟩⟩
      · rw [if_neg (of_decide_eq_false hb)] at eT
        refine Ex_nil (Ex_cons (Ex_Expr (Ev_Meth (Ev_loc ⟨rfl, rfl, rfl⟩ rfl l7 ⟨_, Mth_append ew, fun h _ => plainF_keeps rfl h, ?_⟩))))
        refine Evs_cons ?_
        refine Ev_loc ⟨rfl, rfl, rfl⟩ rfl rfl ?_
        refine Evs_nil ?_
        refine Op_append ew len ?_
        exact ⟨rfl, Ex_nil ⟨fin _ eT.symm, l1, l2, l3, l4, l5, l6, l7⟩⟩
  · have tb' := tb.push w0 wr (by rw [lr]; exact ew)
    refine Ex_cons (Ex_Expr (Ev_Meth (Ev_loc ⟨rfl, rfl, rfl⟩ rfl l1 ⟨_, Mth_append tb.at_, fun h _ => plainF_keeps rfl h, ?_⟩)))
    refine Evs_cons ?_
    refine Ev_loc ⟨rfl, rfl, rfl⟩ rfl l7 ?_
    refine Evs_nil ?_
    refine Op_append tb.at_ (by rw [List.length_map]; omega) ?_
    exact ⟨rfl, Ex_nil ⟨⟨rows ++ [w], by rw [List.length_append, lr]; rfl, tb'⟩, l1, l2, l3, l4⟩⟩
end
end Mu
end
noncomputable section
open PySem PySem.W PySem.Calls PyProof.Rows
set_option Elab.async false
set_option linter.unusedVariables false
set_option maxRecDepth 100000
set_option maxHeartbeats 4000000
namespace Mu
abbrev Lf := Str × Str
def elemL (name : Str) (rows : List Row) (ch : List AV) : List AV := [.str "element", .tup [.str name, .str "", .str name], .str "", .tup (rows.map rowAV), .tup ch]
def vk : List Str := [("" : Str), ("v" : Str)]
def leafRow (v : Str) : Row := (vk, "v", v)
def leafL (p : Lf) : List AV := elemL p.1 [leafRow p.2] []
def kidsL (ls : List Lf) : List AV := ls.map fun p => .tup (leafL p)
def outerL (ls : List Lf) : List AV := elemL "e" [] (kidsL ls)
def lfOk (p : Lf) : Bool := PyData.strOk p.1 && PyData.strOk p.2
def lsOk (ls : List Lf) : Bool := ls.all lfOk
theorem kidsL_len (ls : List Lf) : (kidsL ls).length = ls.length := by simp [kidsL]
theorem leaf_ok {p : Lf} (h : lfOk p = true) (n : Nat) : dOk (n + 4) (.tup (leafL p)) = true := by
  unfold lfOk at h
  simp only [Bool.and_eq_true] at h
  have e1 : PyData.strOk "element" = true := by decide +kernel
  have e2 : PyData.strOk "" = true := by decide +kernel
  have e3 : PyData.strOk "v" = true := by decide +kernel
  simp [leafL, elemL, leafRow, rowAV, aS, vk, dOk, h.1, h.2, e1, e2, e3]
theorem flatF {ls : List Lf} (ho : lsOk ls = true) (hn : ls.length ≤ 100) : FlatF (outerL ls) (kidsL ls) where
  len := by simp [outerL, elemL]
  at_ := rfl
  n := by rw [kidsL_len]; omega
  ok := by
    have e1 : PyData.strOk "element" = true := by decide +kernel
    have e2 : PyData.strOk "" = true := by decide +kernel
    have e3 : PyData.strOk "e" = true := by decide +kernel
    have all : ((kidsL ls).all (dOk 6)) = true := List.all_eq_true.mpr fun a ha => by
      obtain ⟨p, hp, rfl⟩ := List.mem_map.mp ha
      exact leaf_ok (List.all_eq_true.mp ho p hp) 2
    simp only [outerL, elemL, dOk, List.all_cons, List.all_nil, List.map_nil, e1, e2, e3, all, Bool.and_self, Bool.and_true]
  leaf := fun d hd => by
    obtain ⟨p, hp, rfl⟩ := List.mem_map.mp hd
    exact ⟨_, rfl, by simp [leafL, elemL], rfl, leaf_ok (List.all_eq_true.mp ho p hp) 4⟩

/-- a form by its number -/
def nameAt (ls : List Lf) (i : Nat) : Str := match ls[i]? with
  | some p => p.1
  | none => "e"
def rowsAt (ls : List Lf) (i : Nat) : List Row := match ls[i]? with
  | some p => [leafRow p.2]
  | none => []
def chAt (ls : List Lf) (i : Nat) : List AV := match ls[i]? with
  | some _ => []
  | none => kidsL ls
def formAt (ls : List Lf) (i : Nat) : List AV := elemL (nameAt ls i) (rowsAt ls i) (chAt ls i)
theorem form_at {ls : List Lf} {i : Nat} (h : i < ls.length + 1) : (allF (outerL ls) (kidsL ls))[i]? = some (.tup (formAt ls i)) := by
  unfold allF formAt nameAt rowsAt chAt
  by_cases q : i < ls.length
  · rw [List.getElem?_append_left (by rw [kidsL_len]; exact q), List.getElem?_eq_getElem q]
    simp [kidsL, leafL, q]
  · obtain rfl : i = ls.length := by omega
    rw [List.getElem?_append_right (by rw [kidsL_len]; exact Nat.le_refl _), kidsL_len, Nat.sub_self, List.getElem?_eq_none (Nat.le_refl _)]
    rfl
def KL (l1 l2 : List Lf) (p q : Nat) : Option Int := match l1[p]?, l2[q]? with
  | some a, some b => if a.1 = b.1 then some (if a.2 = b.2 then 0 else 1) else none
  | _, _ => none
def optAV : Option Int → AV
  | some k => .int k
  | none => .none
theorem dget_nil {κ : Type} [DecidableEq κ] (k : κ) : dget ([] : List (κ × AV)) k = none := rfl
theorem dget_cons {κ : Type} [DecidableEq κ] (p : κ × AV) (es : List (κ × AV)) (k : κ) : dget (p :: es) k = if p.1 = k then some p.2 else dget es k := by
  unfold dget
  rw [List.find?_cons]
  by_cases h : p.1 = k
  · simp [h]
  · simp [h]
theorem dget_app {κ : Type} [DecidableEq κ] (k k' : κ) (a : AV) : ∀ es : List (κ × AV), dget es k = none → dget (es ++ [(k, a)]) k' = if k = k' then some a else dget es k'
  | [], _ => by rw [List.nil_append, dget_cons]
  | p :: es, h => by
    rw [dget_cons] at h
    by_cases h1 : p.1 = k
    · rw [if_pos h1] at h; cases h
    · rw [if_neg h1] at h
      rw [List.cons_append, dget_cons, dget_app k k' a es h, dget_cons]
      by_cases h2 : p.1 = k'
      · rw [if_pos h2, if_pos h2, if_neg (fun e => h1 (h2.trans e.symm))]
      · rw [if_neg h2, if_neg h2]
theorem dget_map {κ : Type} [DecidableEq κ] (k k' : κ) (a : AV) : ∀ es : List (κ × AV), (dget es k).isSome = true → dget (es.map fun p => if p.1 = k then (p.1, a) else p) k' = if k = k' then some a else dget es k'
  | [], h => by cases h
  | p :: es, h => by
    have other : k ≠ k' → ∀ es : List (κ × AV), dget (es.map fun p => if p.1 = k then (p.1, a) else p) k' = dget es k' := fun hk es => by
      induction es with
      | nil => rfl
      | cons q es ih =>
        rw [List.map_cons, dget_cons, dget_cons, ih]
        by_cases h1 : q.1 = k
        · rw [if_pos h1]
          have : q.1 ≠ k' := fun e => hk (h1.symm.trans e)
          rw [if_neg this, if_neg this]
        · rw [if_neg h1]
    by_cases hk : k = k'
    · subst hk
      rw [if_pos rfl, List.map_cons, dget_cons]
      by_cases h1 : p.1 = k
      · rw [if_pos h1]; simp [h1]
      · rw [if_neg h1, if_neg h1]
        rw [dget_cons, if_neg h1] at h
        have := dget_map k k a es h
        rwa [if_pos rfl] at this
    · rw [if_neg hk, other hk]
theorem dget_dput {κ : Type} [DecidableEq κ] (es : List (κ × AV)) (k k' : κ) (a : AV) : dget (dput es k a) k' = if k = k' then some a else dget es k' := by
  unfold dput
  by_cases h : (dget es k).isSome = true
  · rw [if_pos h]; exact dget_map k k' a es h
  · rw [if_neg h]; exact dget_app k k' a es (by simpa using h)
theorem dput_lenI (es : List (List Int × AV)) (k : List Int) (a : AV) : (dput es k a).length ≤ es.length + 1 := by
  unfold dput
  split
  · rw [List.length_map]; omega
  · rw [List.length_append]; simp
theorem unlike_nil_nil : unlike [] [] = [] := by decide
theorem unlike_leafs (v w : Str) : (unlike [leafRow v] [leafRow w]).length = if v = w then 0 else 1 := by
  have e1 : ∀ v, rowsD [leafRow v] = [(vk, rowNV (leafRow v))] := fun v => rfl
  have e2 : unKeys [leafRow v] [leafRow w] = [vk] := by
    unfold unKeys; rw [e1, e1]; rfl
  unfold unlike
  rw [e2]
  have e3 : sortKs [vk] = [vk] := rfl
  rw [e3, List.flatMap_cons, List.flatMap_nil, List.append_nil, e1, e1]
  have e4 : dget [(vk, rowNV (leafRow w))] vk = some (rowNV (leafRow w)) := rfl
  have e5 : dget [(vk, rowNV (leafRow v))] vk = some (rowNV (leafRow v)) := rfl
  have e6 : aeq ((dget [(vk, rowNV (leafRow v))] vk).getD .none) (rowNV (leafRow w)) = (v == w) := by
    rw [e5]; simp [rowNV, leafRow, aeq, aeqs]
  by_cases e : v = w
  · rw [if_pos e]
    have : finding [(vk, rowNV (leafRow v))] [(vk, rowNV (leafRow w))] vk = [] := finding_same (f := [(vk, rowNV (leafRow v))]) e4 (by rw [e6, e]; simp)
    rw [this]; rfl
  · rw [if_neg e]
    have : finding [(vk, rowNV (leafRow v))] [(vk, rowNV (leafRow w))] vk = _ := finding_diff (f := [(vk, rowNV (leafRow v))]) (r := leafRow w) e4 (by rw [e6]; simpa using e)
    rw [this]; rfl
theorem unKeys_small (ls ms : List Lf) (i j : Nat) : (unKeys (rowsAt ls i) (rowsAt ms j)).length ≤ 3 ∧ ∀ k ∈ unKeys (rowsAt ls i) (rowsAt ms j), k ≠ [] := by
  have e1 : ∀ v, rowsD [leafRow v] = [(vk, rowNV (leafRow v))] := fun v => rfl
  have e0 : rowsD [] = [] := rfl
  have nv : ∀ k ∈ [vk], k ≠ [] := fun k hk => by rw [List.mem_singleton.mp hk]; unfold vk; simp
  unfold rowsAt unKeys
  cases ls[i]? with
  | none =>
    cases ms[j]? with
    | none => exact ⟨Nat.zero_le _, fun k hk => by cases hk⟩
    | some q => exact ⟨Nat.le_of_ble_eq_true rfl, nv⟩
  | some p =>
    cases ms[j]? with
    | none => exact ⟨Nat.le_of_ble_eq_true rfl, nv⟩
    | some q => exact ⟨Nat.le_of_ble_eq_true rfl, nv⟩
end Mu
end
noncomputable section
open PySem PySem.W PySem.Calls PyProof.Rows
set_option Elab.async false
set_option linter.unusedVariables false
set_option maxRecDepth 100000
set_option maxHeartbeats 4000000
namespace Mu
/-- the costs put down so far -/
def Vis (l1 l2 : List Lf) (i j : Nat) (es : List (List Int × AV)) : Prop := ∀ p q : Nat, p < l1.length → q < l2.length → dget es [(p : Int), (q : Int)] = if p < i ∨ (p = i ∧ q < j) then (KL l1 l2 p q).map AV.int else none
def Mat (hp : AH) (m one other : Addr) (es : List (List Int × AV)) : Prop := ∃ dm cd, And3 (hp m = some (.inst 85 dm)) (hp dm = some (.attrs (MA one other cd))) (hp cd = some (.dictI es))
theorem vis_none {l1 l2 : List Lf} {i j : Nat} {es : List (List Int × AV)} (h : Vis l1 l2 i j es) (hne : nameAt l1 i ≠ nameAt l2 j) : Vis l1 l2 i (j + 1) es := fun p q hp hq => by
  rw [h p q hp hq]
  by_cases e : p = i ∧ q = j
  · obtain ⟨rfl, rfl⟩ := e
    rw [if_neg (by omega), if_pos (by omega)]
    have : KL l1 l2 p q = none := by
      unfold KL nameAt at *
      rw [List.getElem?_eq_getElem hp, List.getElem?_eq_getElem hq] at *
      simp only at hne ⊢
      rw [if_neg hne]
    rw [this]; rfl
  · by_cases c1 : p < i ∨ (p = i ∧ q < j)
    · rw [if_pos c1, if_pos (by omega)]
    · rw [if_neg c1, if_neg (by omega)]
theorem vis_put {l1 l2 : List Lf} {i j : Nat} {es : List (List Int × AV)} {v : Int} (h : Vis l1 l2 i j es) (hv : i < l1.length → j < l2.length → KL l1 l2 i j = some v) : Vis l1 l2 i (j + 1) (dput es [(i : Int), (j : Int)] (.int v)) := fun p q hp hq => by
  rw [dget_dput, h p q hp hq]
  by_cases e : p = i ∧ q = j
  · obtain ⟨rfl, rfl⟩ := e
    rw [if_pos rfl, if_pos (by omega), hv hp hq]; rfl
  · rw [if_neg (by intro z; simp only [List.cons.injEq, and_true] at z; omega)]
    by_cases c1 : p < i ∨ (p = i ∧ q < j)
    · rw [if_pos c1, if_pos (by omega)]
    · rw [if_neg c1, if_neg (by omega)]
theorem vis_row {l1 l2 : List Lf} {i : Nat} {es : List (List Int × AV)} (h : Vis l1 l2 i (l2.length + 1) es) : Vis l1 l2 (i + 1) 0 es := fun p q hp hq => by
  rw [h p q hp hq]
  by_cases c1 : p < i ∨ (p = i ∧ q < l2.length + 1)
  · rw [if_pos c1, if_pos (by omega)]
  · rw [if_neg c1, if_neg (by omega)]
theorem label_eq (a b : Str) : (aeq (.str "element") (.str "element") && aeq (.tup [.str a, .str "", .str a]) (.tup [.str b, .str "", .str b])) = decide (a = b) := by
  simp only [aeq, aeqs, BEq.rfl, Bool.true_and, Bool.and_true]
  by_cases h : a = b <;> simp [h]
theorem name_ok {ls : List Lf} (ho : lsOk ls = true) (i : Nat) : PyData.strOk (nameAt ls i) = true := by
  unfold nameAt
  cases q : ls[i]? with
  | none => decide +kernel
  | some p =>
    have := List.all_eq_true.mp ho p (List.mem_of_getElem? q)
    unfold lfOk at this
    simp only [Bool.and_eq_true] at this
    exact this.1
theorem rows_ok {ls : List Lf} (ho : lsOk ls = true) (i : Nat) : rowsOk (rowsAt ls i) = true := by
  unfold rowsAt rowsOk
  cases q : ls[i]? with
  | none => rfl
  | some p =>
    have := List.all_eq_true.mp ho p (List.mem_of_getElem? q)
    unfold lfOk at this
    simp only [Bool.and_eq_true] at this
    have e3 : PyData.strOk "v" = true := by decide +kernel
    simp [leafRow, this.2, e3]
theorem rows_len (ls : List Lf) (i : Nat) : (rowsAt ls i).length ≤ 1000 := by unfold rowsAt; split <;> simp
theorem el_ok : dOk 10 (.str "element") = true := by decide +kernel
theorem em_ok : dOk 10 (.str "") = true := by decide +kernel
theorem label_ok {a : Str} (h : PyData.strOk a = true) : dOk 10 (.tup [.str a, .str "", .str a]) = true := by
  have e2 : PyData.strOk "" = true := by decide +kernel
  simp [dOk, h, e2]
theorem cost_leaf {l1 l2 : List Lf} {i j : Nat} (hi : i < l1.length) (hj : j < l2.length) (hn : nameAt l1 i = nameAt l2 j) : KL l1 l2 i j = some ((if aeq (.str "") (.str "") = true then 0 else 1) + ((unlike (rowsAt l1 i) (rowsAt l2 j)).length : Int) + T (KL l1 l2) (full l1.length i) (full l2.length j)) := by
  have e1 : full l1.length i = 0 := by unfold full; rw [if_neg (by omega)]
  have e2 : full l2.length j = 0 := by unfold full; rw [if_neg (by omega)]
  rw [e1, e2, T_0]
  unfold KL
  unfold nameAt at hn
  unfold rowsAt
  rw [List.getElem?_eq_getElem hi, List.getElem?_eq_getElem hj] at *
  simp only at hn ⊢
  rw [if_pos hn, unlike_leafs]
  have : aeq (AV.str "") (AV.str "") = true := by simp [aeq]
  rw [if_pos this]
  split <;> simp

section
variable {c : Cx} {P : Params} (hK : c.K = KK P)
include hK

theorem matching_ {N : Nat} {one other : Addr} {l1 l2 : List Lf} {k : AV → AH → Prop} {hp : AH} (o1 : lsOk l1 = true) (o2 : lsOk l2 = true) (b1 : l1.length ≤ 100) (b2 : l2.length ≤ 100)
    (W1 : Flat hp one (outerL l1) (kidsL l1)) (W2 : Flat hp other (outerL l2) (kidsL l2)) (h : ∀ m hp' es, Grow hp hp' → Mat hp' m one other es → Vis l1 l2 (l1.length + 1) 0 es → k (.ref m) hp') : Cal c (N + 5) (.ref 85) [.ref one, .ref other] k hp := by
  refine Cal_cls (⟨⟨_, _, _, by rw [hK]; k_is⟩, by rw [hK]; k_is, by exact rfl, rfl, rfl, rfl, (by intro vs hv; obtain ⟨_, vs1, rfl, hv1⟩ := vlenS (n := 2) hv; obtain ⟨_, vs2, rfl, hv2⟩ := vlenS (n := 1) hv1; obtain ⟨_, vs3, rfl, hv3⟩ := vlenS (n := 0) hv2; obtain rfl := vlen0 hv3; rfl), (by decide), allCons (by first | exact .inl rfl | exact .inr ⟨rfl, fun _ => rfl⟩) <| allCons (by first | exact .inl rfl | exact .inr ⟨rfl, fun _ => rfl⟩) <| allCons (by first | exact .inl rfl | exact .inr ⟨rfl, fun _ => rfl⟩) <| allNil, rfl, rfl, rfl⟩ : Fn c 54 ⟨_, _, ⟨_, _, _, _, _, _, _⟩, .stmts (_ :: _), ⟨_, _, _, _, _⟩, _, _, _, _, _, _, _, _, _, _⟩ (_ :: _) ["self", "one", "other"]) rfl (makes_85 hK) (init_85 hK) (initT_85 hK) fun x dx L hx hdx nxd nL1 nL2 hL => ?_
  have g0 : Grow hp (upd (upd hp dx (.attrs [])) x (.inst 85 dx)) := ((Grow.refl hp).thenNew hdx).thenUpd hx
  refine Ex_cons ?_
  refine Ex_AssignAttr ?_
  refine Ev_loc ⟨rfl, rfl, rfl⟩ rfl rfl ?_
  refine Ev_loc ⟨rfl, rfl, rfl⟩ rfl rfl ?_
  refine Un_setA upd_same (upd_off upd_same nxd.symm) (Nat.le_of_ble_eq_true rfl) (seta_85 hK) (over_85 hK) (tak_85_one hK) (hasd_85 hK) ?_
  have g1 := g0.thenUpd (o := .attrs [("one", .ref one)]) hdx
  have x1 := upd_off (o' := .attrs [("one", .ref one)]) (upd_same (f := upd hp dx (.attrs [])) (a := x) (o := .inst 85 dx)) nxd
  refine Ex_cons ?_
  refine Ex_AssignAttr ?_
  refine Ev_loc ⟨rfl, rfl, rfl⟩ rfl rfl ?_
  refine Ev_loc ⟨rfl, rfl, rfl⟩ rfl rfl ?_
  refine Un_setA x1 upd_same (Nat.le_of_ble_eq_true rfl) (seta_85 hK) (over_85 hK) (tak_85_other hK) (hasd_85 hK) ?_
  have g2 := g1.thenUpd (o := .attrs [("one", .ref one), ("other", .ref other)]) hdx
  have x2 := upd_off (o' := .attrs [("one", .ref one), ("other", .ref other)]) x1 nxd
  refine Ex_cons ?_
  refine Ex_AssignAttr ?_
  refine Ev_Dict0 fun cd hcd => ?_
  refine Ev_loc ⟨rfl, rfl, rfl⟩ rfl rfl ?_
  have c0 : hp cd = none := g2.gone hcd
  have ncd : cd ≠ dx := (ne_at upd_same hcd).symm
  refine Un_setA (upd_at x2 hcd) (upd_at upd_same hcd) (Nat.le_of_ble_eq_true rfl) (seta_85 hK) (over_85 hK) (tak_85_costs hK) (hasd_85 hK) ?_
  have g3 := (g2.thenNew (o := .dictI []) hcd).thenUpd (o := .attrs (MA one other cd)) hdx
  have x3 := upd_off (o' := .attrs (MA one other cd)) (upd_at (o' := .dictI []) x2 hcd) nxd
  have c3 := upd_off (o' := .attrs (MA one other cd)) (upd_same (f := upd (upd (upd (upd hp dx (.attrs [])) x (.inst 85 dx)) dx (.attrs [("one", .ref one)])) dx (.attrs [("one", .ref one), ("other", .ref other)])) (a := cd) (o := .dictI [])) ncd
  have ncx : cd ≠ x := ne_val c3 x3 (by intro z; cases z)
  obtain ⟨dx1, f1, cs1, sz1, pa1, pl1, kids1, r1, r2, r3, r4, r5, r6, r7, r8⟩ := id W1
  obtain ⟨dx2, f2, cs2, sz2, pa2, pl2, kids2, t1, t2, t3, t4, t5, t6, t7, t8⟩ := id W2
  have lF : ∀ ls : List Lf, (allF (outerL ls) (kidsL ls)).length = ls.length + 1 := fun ls => by unfold allF; rw [List.length_append, kidsL_len]; rfl
  refine Ex_cons (Ex_For (Src_range ⟨rfl, rfl, rfl⟩ rfl (g_range hK) ?_))
  refine Ev_CallB ⟨rfl, rfl, rfl⟩ rfl (g_len hK) rfl rfl ?_
  refine Evs_cons ?_
  refine Ev_Attr ?_
  refine Ev_loc ⟨rfl, rfl, rfl⟩ rfl rfl ?_
  refine Op_attr (g3 _ _ r1) (g3 _ _ r2) rfl (get_148_forms hK) (hasd_148 hK) (fnd_148_forms hK) (noGet0 hK) ?_
  refine Evs_nil ?_
  refine Op_lenL (g3 _ _ r3) ?_
  refine ⟨l1.length + 1, by rw [lF], by omega, fun i st => And4 (∃ es, And6 (Grow hp st.hp) (st.hp x = some (.inst 85 dx)) (st.hp dx = some (.attrs (MA one other cd))) (st.hp cd = some (.dictI es)) (es.length ≤ i * 101) (Vis l1 l2 i 0 es)) (st.loc "self" = some (.ref x)) (st.loc "one" = some (.ref one)) (st.loc "other" = some (.ref other)), ⟨⟨[], g3, x3, upd_same, c3, Nat.zero_le _, fun p q _ _ => by rw [if_neg (by omega)]; rfl⟩, rfl, rfl, rfl⟩, fun i st hi ⟨⟨es, g, e1, e2, e3, e4, e5⟩, a1, a2, a3⟩ => ⟨trivial, ?_⟩, fun st ⟨⟨es, g, e1, e2, e3, e4, e5⟩, a1, a2, a3⟩ => ⟨trivial, Ex_nil ⟨rfl, h x _ es g ⟨dx, cd, e1, e2, e3⟩ e5⟩⟩⟩
  refine Un1_Name ?_
  refine Un_loc ⟨rfl, rfl, rfl⟩ rfl ?_
  refine Ex_cons ?_
  refine Ex_For ?_
  refine Src_range ⟨rfl, rfl, rfl⟩ rfl (g_range hK) ?_
  refine Ev_CallB ⟨rfl, rfl, rfl⟩ rfl (g_len hK) rfl rfl ?_
  refine Evs_cons ?_
  refine Ev_Attr ?_
  refine Ev_loc ⟨rfl, rfl, rfl⟩ rfl a3 ?_
  refine Op_attr (g _ _ t1) (g _ _ t2) rfl (get_148_forms hK) (hasd_148 hK) (fnd_148_forms hK) (noGet0 hK) ?_
  refine Evs_nil ?_
  refine Op_lenL (g _ _ t3) ?_
  refine ⟨l2.length + 1, by rw [lF], by omega, fun j st => And5 (∃ es, And6 (Grow hp st.hp) (st.hp x = some (.inst 85 dx)) (st.hp dx = some (.attrs (MA one other cd))) (st.hp cd = some (.dictI es)) (es.length ≤ i * 101 + j) (Vis l1 l2 i j es)) (st.loc "self" = some (.ref x)) (st.loc "one" = some (.ref one)) (st.loc "other" = some (.ref other)) (st.loc "i" = some (.int i)), ⟨⟨es, g, e1, e2, e3, e4, e5⟩, a1, a2, a3, rfl⟩, fun j st hj ⟨⟨es, g, e1, e2, e3, e4, e5⟩, a1, a2, a3, a4⟩ => ⟨trivial, ?_⟩, fun st ⟨⟨es, g, e1, e2, e3, e4, e5⟩, a1, a2, a3, a4⟩ => ⟨trivial, Ex_nil ⟨⟨es, g, e1, e2, e3, by omega, vis_row e5⟩, a1, a2, a3⟩⟩⟩
  have fi := form_at (ls := l1) hi
  have fj := form_at (ls := l2) hj
  refine Un1_Name ?_
  refine Un_loc ⟨rfl, rfl, rfl⟩ rfl ?_
  refine Ex_cons ?_
  refine Ex_If ?_
  refine Tst_value ?_
  refine Ev_CallF ⟨rfl, rfl, rfl⟩ rfl (g_may_match hK) (keep_28 hK) ?_
  refine Evs_cons ?_
  refine Ev_Sub ?_
  refine Ev_Attr ?_
  refine Ev_loc ⟨rfl, rfl, rfl⟩ rfl a2 ?_
  refine Op_attr (g _ _ r1) (g _ _ r2) rfl (get_148_forms hK) (hasd_148 hK) (fnd_148_forms hK) (noGet0 hK) ?_
  refine Ev_loc ⟨rfl, rfl, rfl⟩ rfl a4 ?_
  refine Op_subL (g _ _ r3) (by omega) (by rw [Int.toNat_natCast]; exact fi) ?_
  refine Evs_cons ?_
  refine Ev_Sub ?_
  refine Ev_Attr ?_
  refine Ev_loc ⟨rfl, rfl, rfl⟩ rfl a3 ?_
  refine Op_attr (g _ _ t1) (g _ _ t2) rfl (get_148_forms hK) (hasd_148 hK) (fnd_148_forms hK) (noGet0 hK) ?_
  refine Ev_loc ⟨rfl, rfl, rfl⟩ rfl rfl ?_
  refine Op_subL (g _ _ t3) (by omega) (by rw [Int.toNat_natCast]; exact fj) ?_
  refine Evs_nil ?_
  refine may_match_ hK (by simp [formAt, elemL]) (by simp [formAt, elemL]) rfl rfl rfl rfl el_ok (label_ok (name_ok o1 i)) el_ok (label_ok (name_ok o2 j)) ⟨_, rfl, fun hb => ?_, fun hb => ?_⟩
  · rw [label_eq] at hb
    have hn := of_decide_eq_true hb
    obtain ⟨uk1, uk2⟩ := unKeys_small l1 l2 i j
    refine Ex_cons ?_
    refine Ex_AssignSub ?_
    refine Ev_BinOp ?_
    refine Ev_CallF ⟨rfl, rfl, rfl⟩ rfl (g_own_cost hK) (keep_40 hK) ?_
    refine Evs_cons ?_
    refine Ev_Sub ?_
    refine Ev_Attr ?_
    refine Ev_loc ⟨rfl, rfl, rfl⟩ rfl a2 ?_
    refine Op_attr (g _ _ r1) (g _ _ r2) rfl (get_148_forms hK) (hasd_148 hK) (fnd_148_forms hK) (noGet0 hK) ?_
    refine Ev_loc ⟨rfl, rfl, rfl⟩ rfl a4 ?_
    refine Op_subL (g _ _ r3) (by omega) (by rw [Int.toNat_natCast]; exact fi) ?_
    refine Evs_cons ?_
    refine Ev_Sub ?_
    refine Ev_Attr ?_
    refine Ev_loc ⟨rfl, rfl, rfl⟩ rfl a3 ?_
    refine Op_attr (g _ _ t1) (g _ _ t2) rfl (get_148_forms hK) (hasd_148 hK) (fnd_148_forms hK) (noGet0 hK) ?_
    refine Ev_loc ⟨rfl, rfl, rfl⟩ rfl rfl ?_
    refine Op_subL (g _ _ t3) (by omega) (by rw [Int.toNat_natCast]; exact fj) ?_
    refine Evs_nil ?_
    refine own_cost_ hK (ra := rowsAt l1 i) (rb := rowsAt l2 j) (by simp [formAt, elemL]) (by simp [formAt, elemL]) rfl rfl rfl rfl em_ok em_ok (rows_len _ _) (rows_len _ _) (rows_ok o1 i) (rows_ok o2 j) uk1 uk2 fun hp1 g' => ?_
    have e1 := g' _ _ e1
    have e2 := g' _ _ e2
    have e3 := g' _ _ e3
    have g := g.trans g'
    refine Ev_Sub ?_
    refine Ev_Sub ?_
    refine Ev_Meth (Ev_loc ⟨rfl, rfl, rfl⟩ rfl a1 ⟨_, Mth_inst e1 e2 rfl (get_85_table hK) (fnd_85_table hK) (isf_61 hK), keeps_K (keep_61 hK), ?_⟩)
    refine Evs_cons ?_
    refine Ev_loc ⟨rfl, rfl, rfl⟩ rfl a4 ?_
    refine Evs_cons ?_
    refine Ev_loc ⟨rfl, rfl, rfl⟩ rfl rfl ?_
    refine Evs_nil ?_
    have k1 := kidsL_len l1
    have k2 := kidsL_len l2
    refine OpL_Cal (table_ hK (K := KL l1 l2) e1 e2 e3 (W1.grow g) (W2.grow g) (by omega) (by omega) (by omega) (by omega) (fun p q hp' hq' => ?_) fun r rows hp2 tb lr => ?_)
    · rw [k1] at hp'
      rw [k2] at hq'
      have hi' : i = l1.length := by
        unfold full at hp'
        split at hp'
        · assumption
        · omega
      have hp'' : p < l1.length := by unfold full at hp'; split at hp' <;> omega
      have hq'' : q < l2.length := by unfold full at hq'; split at hq' <;> omega
      rw [e5 p q hp'' hq'', if_pos (by omega)]
      cases KL l1 l2 p q <;> rfl
    rw [k1, k2] at *
    obtain ⟨wl, ewl⟩ : ∃ a, rows[full l1.length i]? = some a := ⟨rows[full l1.length i]'(by omega), List.getElem?_eq_getElem _⟩
    have lastR : (rows.map AV.ref).getLast? = some (.ref wl) := by
      rw [List.getLast?_eq_getElem?, List.length_map, lr, Nat.add_sub_cancel, List.getElem?_map, ewl]; rfl
    refine Ev_UnaryOp ?_
    refine Ev_int ?_
    refine Op_neg ?_
    refine Op_subLlast tb.at_ lastR ?_
    refine Ev_UnaryOp ?_
    refine Ev_int ?_
    refine Op_neg ?_
    refine Op_subLlast (tb.rows_ _ _ ewl).2.2 (trow_last _ _ _) ?_
    refine Op_add ?_
    have e1 := tb.g _ _ e1
    have e2 := tb.g _ _ e2
    have e3 := tb.g _ _ e3
    have g := g.trans tb.g
    refine Ev_Attr ?_
    refine Ev_loc ⟨rfl, rfl, rfl⟩ rfl a1 ?_
    refine Op_attr e1 e2 rfl (get_85_costs hK) (hasd_85 hK) (fnd_85_costs hK) (noGet0 hK) ?_
    refine Ev_Tuple ?_
    refine Evs_cons ?_
    refine Ev_loc ⟨rfl, rfl, rfl⟩ rfl a4 ?_
    refine Evs_cons ?_
    refine Ev_loc ⟨rfl, rfl, rfl⟩ rfl rfl ?_
    refine Evs_nil ?_
    refine ⟨by simp, Un_setI (ks := [(i : Int), (j : Int)]) e3 ?_ (Ex_nil (Ex_nil ⟨⟨_, g.thenUpd c0, upd_off e1 ncx.symm, upd_off e2 ncd.symm, upd_same, ?_, vis_put e5 ?_⟩, a1, a2, a3, a4⟩))⟩
    · have := dput_lenI es [(i : Int), (j : Int)] (.int ((if aeq (.str "") (.str "") = true then 0 else 1) + ((unlike (rowsAt l1 i) (rowsAt l2 j)).length : Int) + T (KL l1 l2) (full l1.length i) (full l2.length j)))
      have : i * 101 ≤ 100 * 101 := Nat.mul_le_mul_right _ (by omega)
      omega
    · have := dput_lenI es [(i : Int), (j : Int)] (.int ((if aeq (.str "") (.str "") = true then 0 else 1) + ((unlike (rowsAt l1 i) (rowsAt l2 j)).length : Int) + T (KL l1 l2) (full l1.length i) (full l2.length j)))
      omega
    · exact fun hi' hj' => cost_leaf hi' hj' hn
  · rw [label_eq] at hb
    have hn := of_decide_eq_false hb
    exact Ex_nil (Ex_nil ⟨⟨es, g, e1, e2, e3, by omega, vis_none e5 hn⟩, a1, a2, a3, a4⟩)
end
end Mu
end
noncomputable section
open PySem PySem.W PySem.Calls PyProof.Rows
set_option Elab.async false
set_option linter.unusedVariables false
set_option maxRecDepth 100000
set_option maxHeartbeats 4000000
namespace Mu
inductive Sp where
  | keep (a b : Nat)
  | out (a : Nat)
  | ins (a b : Nat)
def spAV : Sp → AV
  | .keep a b => .tup [.str "keep", .int a, .int b]
  | .out a => .tup [.str "out", .int a]
  | .ins a b => .tup [.str "in", .int a, .int b]
def keepQ (K : Nat → Nat → Option Int) (p q : Nat) : Bool := decide (0 < p) && decide (0 < q) && match K (p - 1) (q - 1) with
  | some k => T K p q == T K (p - 1) (q - 1) + k
  | none => false
/-- the walk back -/
def bt (K : Nat → Nat → Option Int) : Nat → Nat → Nat → List Sp
  | 0, _, _ => []
  | f + 1, p, q => if p = 0 ∧ q = 0 then [] else if keepQ K p q = true then bt K f (p - 1) (q - 1) ++ [.keep (p - 1) (q - 1)] else
      if 0 < p ∧ T K p q = T K (p - 1) q + 1 then bt K f (p - 1) q ++ [.out (p - 1)] else bt K f p (q - 1) ++ [.ins p (q - 1)]
theorem bt_end (K : Nat → Nat → Option Int) (f : Nat) : bt K f 0 0 = [] := by cases f <;> simp [bt]
def spIn (n m : Nat) : Sp → Prop
  | .keep a b => a < n ∧ b < m
  | .out a => a < n
  | .ins a b => a ≤ n ∧ b < m
theorem T_p0 (K : Nat → Nat → Option Int) (p : Nat) : T K p 0 = p := by
  induction p with
  | zero => rfl
  | succ p ih => rw [T_s0, ih]; omega
theorem bt_in (K : Nat → Nat → Option Int) : ∀ (f p q n m : Nat), p ≤ n → q ≤ m → ∀ s ∈ bt K f p q, spIn n m s
  | 0, _, _, _, _, _, _, s, hs => by cases hs
  | f + 1, p, q, n, m, hp, hq, s, hs => by
    unfold bt at hs
    split at hs
    · cases hs
    · rename_i h0
      split at hs
      · rename_i h1
        simp only [keepQ, Bool.and_eq_true, decide_eq_true_eq] at h1
        rcases List.mem_append.mp hs with hs | hs
        · exact bt_in K f _ _ n m (by omega) (by omega) s hs
        · rw [List.mem_singleton.mp hs]; exact ⟨by omega, by omega⟩
      · split at hs
        · rename_i h2
          rcases List.mem_append.mp hs with hs | hs
          · exact bt_in K f _ _ n m (by omega) (by omega) s hs
          · rw [List.mem_singleton.mp hs]; show p - 1 < n; omega
        · rename_i h2
          have hq0 : 0 < q := by
            rcases Nat.eq_zero_or_pos q with z | z
            · subst z
              exfalso
              have hp0 : 0 < p := by omega
              exact h2 ⟨hp0, by rw [T_p0, T_p0]; omega⟩
            · exact z
          rcases List.mem_append.mp hs with hs | hs
          · exact bt_in K f _ _ n m (by omega) (by omega) s hs
          · rw [List.mem_singleton.mp hs]; exact ⟨by omega, by omega⟩
theorem bt_len (K : Nat → Nat → Option Int) : ∀ (f p q : Nat), (bt K f p q).length ≤ f
  | 0, _, _ => Nat.le_refl _
  | f + 1, p, q => by
    unfold bt
    split
    · simp
    · split
      · rw [List.length_append]; have := bt_len K f (p - 1) (q - 1); simp; omega
      · split
        · rw [List.length_append]; have := bt_len K f (p - 1) q; simp; omega
        · rw [List.length_append]; have := bt_len K f p (q - 1); simp; omega
theorem Tst.mono {c : Cx} {N : Nat} {ow : List Addr} {env : Env} {st : St} {t : Sem Bool} {k k' : Bool → St → Prop} (h : Tst c N ow env t k st) (q : ∀ a st', k a st' → k' a st') : Tst c N ow env t k' st := fun A P s R H F =>
  wpAny_mono (h A P s R H F) (fun _ _ ⟨st', h1, h2, h4, h5⟩ => ⟨st', h1, h2, h4, q _ _ h5⟩) fun _ _ x => x
theorem full_self (n : Nat) : full n n = n := if_pos rfl
theorem strEq_ok {x : Str} (h : PyData.strOk x = true := by decide +kernel) : dOk 10 (.str x) = true := h

section
variable {c : Cx} {P : Params} (hK : c.K = KK P)
include hK

theorem steps_ {N : Nat} {m one other : Addr} {l1 l2 : List Lf} {es : List (List Int × AV)} {k : AV → AH → Prop} {hp : AH} (b1 : l1.length ≤ 100) (b2 : l2.length ≤ 100)
    (W1 : Flat hp one (outerL l1) (kidsL l1)) (W2 : Flat hp other (outerL l2) (kidsL l2)) (M : Mat hp m one other es) (V : Vis l1 l2 (l1.length + 1) 0 es)
    (h : ∀ r hp', Grow hp hp' → hp r = none → hp' r = some (.list ((bt (KL l1 l2) (l1.length + l2.length) l1.length l2.length).map spAV)) → k (.ref r) hp') : Cal c (N + 2) (.ref 68) [.ref m, .int l1.length, .int l2.length] k hp := by
  obtain ⟨dm, cd, hm, hdm, hc⟩ := id M
  obtain ⟨d1, f1, cs1, sz1, pa1, pl1, kids1, x1, y1, z1, u1, v1, w1, a1, s1⟩ := id W1
  obtain ⟨d2, f2, cs2, sz2, pa2, pl2, kids2, x2, y2, z2, u2, v2, w2, a2, s2⟩ := id W2
  have kl1 := kidsL_len l1
  have kl2 := kidsL_len l2
  obtain ⟨q1, k1, o1⟩ := Flat.kid (x := 0) (F := []) (dx := 0) (cs := 0) v1 w1 a1 (Nat.le_refl _)
  obtain ⟨q2, k2, o2⟩ := Flat.kid (x := 0) (F := []) (dx := 0) (cs := 0) v2 w2 a2 (Nat.le_refl _)
  rw [full_self, kl1] at o1
  rw [full_self, kl2] at o2
  rw [kl1] at k1
  rw [kl2] at k2
  rw [kl1] at s1
  rw [kl2] at s2
  have rl : ∀ n : Nat, ((List.range n).map (fun p : Nat => AV.int p)).length = n := fun n => by simp
  refine Cal_fn (⟨⟨_, _, _, by rw [hK]; k_is⟩, by rw [hK]; k_is, by exact rfl, rfl, rfl, rfl, (by intro vs hv; obtain ⟨_, vs1, rfl, hv1⟩ := vlenS (n := 2) hv; obtain ⟨_, vs2, rfl, hv2⟩ := vlenS (n := 1) hv1; obtain ⟨_, vs3, rfl, hv3⟩ := vlenS (n := 0) hv2; obtain rfl := vlen0 hv3; rfl), (by decide), allCons (by first | exact .inl rfl | exact .inr ⟨rfl, fun _ => rfl⟩) <| allCons (by first | exact .inl rfl | exact .inr ⟨rfl, fun _ => rfl⟩) <| allCons (by first | exact .inl rfl | exact .inr ⟨rfl, fun _ => rfl⟩) <| allNil, rfl, rfl, rfl⟩ : Fn c 68 ⟨_, _, ⟨_, _, _, _, _, _, _⟩, .stmts (_ :: _), ⟨_, _, _, _, _⟩, _, _, _, _, _, _, _, _, _, _⟩ (_ :: _) ["self", "i", "j"]) rfl fun L hL => ?_
  refine Ex_cons ?_
  refine Ex_AssignSwap ?_
  refine Ev_Tuple ?_
  refine Evs_cons ?_
  refine Ev_Sub ?_
  refine Ev_Attr ?_
  refine Ev_Attr ?_
  refine Ev_loc ⟨rfl, rfl, rfl⟩ rfl rfl ?_
  refine Op_attr hm hdm rfl (get_85_one hK) (hasd_85 hK) (fnd_85_one hK) (noGet0 hK) ?_
  refine Op_attr x1 y1 rfl (get_148_children hK) (hasd_148 hK) (fnd_148_children hK) (noGet0 hK) ?_
  refine Ev_loc ⟨rfl, rfl, rfl⟩ rfl rfl ?_
  refine Op_subL u1 (by omega) (by rw [Int.toNat_natCast]; exact k1) ?_
  refine Evs_cons ?_
  refine Ev_Sub ?_
  refine Ev_Attr ?_
  refine Ev_Attr ?_
  refine Ev_loc ⟨rfl, rfl, rfl⟩ rfl rfl ?_
  refine Op_attr hm hdm rfl (get_85_other hK) (hasd_85 hK) (fnd_85_other hK) (noGet0 hK) ?_
  refine Op_attr x2 y2 rfl (get_148_children hK) (hasd_148 hK) (fnd_148_children hK) (noGet0 hK) ?_
  refine Ev_loc ⟨rfl, rfl, rfl⟩ rfl rfl ?_
  refine Op_subL u2 (by omega) (by rw [Int.toNat_natCast]; exact k2) ?_
  refine Evs_nil ?_
  refine ⟨by simp, _, rfl, rfl, ?_⟩
  refine UnL_cons ?_
  refine Un1_bind ?_
  refine Un_loc ⟨rfl, rfl, rfl⟩ rfl ?_
  refine UnL_cons ?_
  refine Un1_bind ?_
  refine Un_loc ⟨rfl, rfl, rfl⟩ rfl ?_
  refine UnL_nil ?_
  refine Ex_cons ?_
  refine Ex_AssignSwap ?_
  refine Ev_Tuple ?_
  refine Evs_cons ?_
  refine Ev_Meth (Ev_loc ⟨rfl, rfl, rfl⟩ rfl rfl ⟨_, Mth_inst hm hdm rfl (get_85_table hK) (fnd_85_table hK) (isf_61 hK), keeps_K (keep_61 hK), ?_⟩)
  refine Evs_cons ?_
  refine Ev_loc ⟨rfl, rfl, rfl⟩ rfl rfl ?_
  refine Evs_cons ?_
  refine Ev_loc ⟨rfl, rfl, rfl⟩ rfl rfl ?_
  refine Evs_nil ?_
  refine OpL_Cal (table_ hK (K := KL l1 l2) (i := l1.length) (j := l2.length) hm hdm hc W1 W2 (by omega) (by omega) (by omega) (by omega) (fun p q hp' hq' => ?_) fun r rows hp2 tb lr => ?_)
  · rw [kl1, full_self] at hp'
    rw [kl2, full_self] at hq'
    rw [V p q hp' hq', if_pos (by omega)]
    cases KL l1 l2 p q <;> rfl
  rw [kl1, full_self] at lr
  rw [kl2, full_self] at tb
  refine Evs_cons ?_
  refine Ev_List ?_
  refine Evs_nil ?_
  refine ⟨by simp, fun D hD => Evs_nil ⟨by simp, _, rfl, rfl, ?_⟩⟩
  refine UnL_cons ?_
  refine Un1_bind ?_
  refine Un_loc ⟨rfl, rfl, rfl⟩ rfl ?_
  refine UnL_cons ?_
  refine Un1_bind ?_
  refine Un_loc ⟨rfl, rfl, rfl⟩ rfl ?_
  refine UnL_nil ?_
  have hD' : hp2 D = none := hD
  have D0 := tb.g.gone hD'
  have nDr : D ≠ r := (ne_at tb.at_ hD').symm
  have nDn : D ∉ rows := fun z => by
    obtain ⟨p', e'⟩ := List.getElem?_of_mem z
    have := (tb.rows_ _ _ e').2.2
    rw [hD'] at this; cases this
  have tb := tb.new (o := .list []) hD'
  refine Ex_cons ?_
  refine Ex_AssignSwap ?_
  refine Ev_Tuple ?_
  refine Evs_cons ?_
  refine Ev_CallB ⟨rfl, rfl, rfl⟩ rfl (g_len hK) rfl rfl ?_
  refine Evs_cons ?_
  refine Ev_loc ⟨rfl, rfl, rfl⟩ rfl rfl ?_
  refine Evs_nil ?_
  refine Op_lenL (tb.g _ _ o1) ?_
  refine Evs_cons ?_
  refine Ev_CallB ⟨rfl, rfl, rfl⟩ rfl (g_len hK) rfl rfl ?_
  refine Evs_cons ?_
  refine Ev_loc ⟨rfl, rfl, rfl⟩ rfl rfl ?_
  refine Evs_nil ?_
  refine Op_lenL (tb.g _ _ o2) ?_
  refine Evs_nil ?_
  refine ⟨by simp, _, rfl, rfl, ?_⟩
  refine UnL_cons ?_
  refine Un1_bind ?_
  refine Un_loc ⟨rfl, rfl, rfl⟩ rfl ?_
  refine UnL_cons ?_
  refine Un1_bind ?_
  refine Un_loc ⟨rfl, rfl, rfl⟩ rfl ?_
  refine UnL_nil ?_
  rw [rl, rl]
  refine Ex_cons (Ex.mono (k := fun fl st => And3 (fl = .next) (Grow hp st.hp ∧ ∃ F : List Sp, And3 (st.hp D = some (.list (F.map spAV))) (F.length ≤ 200) (F.reverse = bt (KL l1 l2) (l1.length + l2.length) l1.length l2.length)) (st.loc "found" = some (.ref D))) ?_ ?_)
  · refine Ex_While (fun mm st => ∃ p q : Nat, And11 (mm = p + q) (p ≤ l1.length) (q ≤ l2.length) (Tb hp (KL l1 l2) l2.length r rows st.hp ∧ ∃ F : List Sp, And3 (st.hp D = some (.list (F.map spAV))) (F.length + p + q ≤ 200) (∃ f, p + q ≤ f ∧ bt (KL l1 l2) f p q ++ F.reverse = bt (KL l1 l2) (l1.length + l2.length) l1.length l2.length)) (st.loc "self" = some (.ref m)) (st.loc "ours" = some (.ref q1)) (st.loc "theirs" = some (.ref q2)) (st.loc "rows" = some (.ref r)) (st.loc "found" = some (.ref D)) (st.loc "p" = some (.int p)) (st.loc "q" = some (.int q))) (n := l1.length + l2.length)
      ⟨l1.length, l2.length, rfl, Nat.le_refl _, Nat.le_refl _, ⟨tb, [], upd_same, by simp; omega, _, Nat.le_refl _, by simp⟩, rfl, rfl, rfl, rfl, rfl, rfl, rfl⟩ ?_
    rintro mm st ⟨p, q, rfl, hpn, hqm, ⟨tb, F, eF, lF, f, hf, ef⟩, g1, g2, g3, g4, g5, g6, g7⟩
    have g := tb.g
    refine Tst.mono (k := fun b st' => st' = st ∧ b = decide (0 < p + q)) ?_ ?_
    · refine Tst_Or2 (Tst_Compare (Ev_loc ⟨rfl, rfl, rfl⟩ rfl g6 (Ev_int (Op_gt ⟨_, rfl, fun hb => ⟨rfl, ?_⟩, fun hb => ?_⟩))))
      · have := of_decide_eq_true hb
        exact (decide_eq_true (by omega)).symm
      · have hb := of_decide_eq_false hb
        refine Tst_Compare (Ev_loc ⟨rfl, rfl, rfl⟩ rfl g7 (Ev_int (Op_gt ⟨_, rfl, rfl, ?_⟩)))
        exact decide_eq_decide.mpr (by omega)
    rintro b st' ⟨rfl, rfl⟩
    refine ⟨fun hb => ?_, fun hb => ?_⟩
    · have hpos := of_decide_eq_true hb
      obtain ⟨f, rfl⟩ : ∃ f', f = f' + 1 := ⟨f - 1, by omega⟩
      have rowAt : ∀ t, t ≤ l1.length → ∃ w, (rows.map AV.ref)[t]? = some (.ref w) ∧ st'.hp w = some (.list (trow (KL l1 l2) l2.length t)) := fun t ht => by
        have e : rows[t]? = some (rows[t]'(by omega)) := List.getElem?_eq_getElem _
        exact ⟨_, by rw [List.getElem?_map, e]; rfl, (tb.rows_ _ _ e).2.2⟩
      obtain ⟨wp, ewp, cwp⟩ := rowAt p hpn
      obtain ⟨wp1, ewp1, cwp1⟩ := rowAt (p - 1) (by omega)
      have ip : ((p : Int) - 1).toNat = p - 1 := by omega
      have iq : ((q : Int) - 1).toNat = q - 1 := by omega
      refine Ex_cons (Ex_Assign (Ev.mono (k := fun a st'' => st'' = st' ∧ a = if 0 < p ∧ 0 < q then optAV (KL l1 l2 (p - 1) (q - 1)) else .none) ?_ ?_))
      · refine Ev_IfExp (Tst_And2 (Tst_Compare (Ev_loc ⟨rfl, rfl, rfl⟩ rfl g6 (Ev_int (Op_gt ⟨_, rfl, fun hb => ⟨fun e => (by cases e), fun _ => Ev_none ⟨rfl, ?_⟩⟩, fun hb => ?_⟩)))))
        · have := of_decide_eq_false hb
          rw [if_neg (by omega)]
        · have hp0 : 0 < p := by have := of_decide_eq_true hb; omega
          refine Tst_Compare (Ev_loc ⟨rfl, rfl, rfl⟩ rfl g7 (Ev_int (Op_gt ⟨_, rfl, fun hb => ?_, fun hb => Ev_none ⟨rfl, ?_⟩⟩)))
          · have hq0 : 0 < q := by have := of_decide_eq_true hb; omega
            refine Ev_Meth (Ev_Attr (Ev_loc ⟨rfl, rfl, rfl⟩ rfl g1 (Op_attr (g _ _ hm) (g _ _ hdm) rfl (get_85_costs hK) (hasd_85 hK) (fnd_85_costs hK) (noGet0 hK) ⟨_, Mth_getI (g _ _ hc), fun h _ => plainF_keeps rfl h, ?_⟩)))
            refine Evs_cons ?_
            refine Ev_Tuple ?_
            refine Evs_cons ?_
            refine Ev_Sub ?_
            refine Ev_loc ⟨rfl, rfl, rfl⟩ rfl g2 ?_
            refine Ev_BinOp ?_
            refine Ev_loc ⟨rfl, rfl, rfl⟩ rfl g6 ?_
            refine Ev_int ?_
            refine Op_sub ?_
            refine Op_subL (g _ _ o1) (by omega) (by rw [ip]; exact range_at (by omega)) ?_
            refine Evs_cons ?_
            refine Ev_Sub ?_
            refine Ev_loc ⟨rfl, rfl, rfl⟩ rfl g3 ?_
            refine Ev_BinOp ?_
            refine Ev_loc ⟨rfl, rfl, rfl⟩ rfl g7 ?_
            refine Ev_int ?_
            refine Op_sub ?_
            refine Op_subL (g _ _ o2) (by omega) (by rw [iq]; exact range_at (by omega)) ?_
            refine Evs_nil ?_
            refine ⟨by simp, Evs_nil (Op_getI (ks := [((p - 1 : Nat) : Int), ((q - 1 : Nat) : Int)]) (g _ _ hc) ⟨rfl, ?_⟩)⟩
            rw [if_pos ⟨hp0, hq0⟩, V (p - 1) (q - 1) (by omega) (by omega), if_pos (by omega)]
            cases KL l1 l2 (p - 1) (q - 1) <;> rfl
          · have := of_decide_eq_false hb
            rw [if_neg (by omega)]
      rintro a st'' ⟨rfl, rfl⟩
      refine Un_loc ⟨rfl, rfl, rfl⟩ rfl ?_
      refine Ex_cons ?_
      refine Ex_If ?_
      refine Tst.mono (k := fun b st₂ => st₂ = st''.set "kept" (if 0 < p ∧ 0 < q then optAV (KL l1 l2 (p - 1) (q - 1)) else .none) ∧ b = keepQ (KL l1 l2) p q) ?_ ?_
      · refine Tst_And2 (Tst_Compare (Ev_loc ⟨rfl, rfl, rfl⟩ rfl rfl (Ev_none (Op_isNotNone ⟨_, rfl, fun hb => ⟨rfl, ?_⟩, fun hb => ?_⟩))))
        · unfold keepQ
          by_cases c0 : 0 < p ∧ 0 < q
          · rw [if_pos c0] at hb
            cases ek : KL l1 l2 (p - 1) (q - 1) with
            | none => simp
            | some kk => rw [ek] at hb; cases hb
          · have : (decide (0 < p) && decide (0 < q)) = false := by
              by_cases h1 : 0 < p <;> by_cases h2 : 0 < q <;> simp [h1, h2] <;> omega
            rw [this, Bool.false_and]
        · have c0 : 0 < p ∧ 0 < q := by
            by_cases c0 : 0 < p ∧ 0 < q
            · exact c0
            · rw [if_neg c0] at hb; cases hb
          rw [if_pos c0] at hb
          cases ek : KL l1 l2 (p - 1) (q - 1) with
          | none => rw [ek] at hb; cases hb
          | some kk =>
            refine Tst_Compare ?_
            refine Ev_Sub ?_
            refine Ev_Sub ?_
            refine Ev_loc ⟨rfl, rfl, rfl⟩ rfl g4 ?_
            refine Ev_loc ⟨rfl, rfl, rfl⟩ rfl g6 ?_
            refine Op_subL tb.at_ (by omega) (by rw [Int.toNat_natCast]; exact ewp) ?_
            refine Ev_loc ⟨rfl, rfl, rfl⟩ rfl g7 ?_
            refine Op_subL cwp (by omega) (by rw [Int.toNat_natCast]; exact trow_at hqm) ?_
            refine Ev_BinOp ?_
            refine Ev_Sub ?_
            refine Ev_Sub ?_
            refine Ev_loc ⟨rfl, rfl, rfl⟩ rfl g4 ?_
            refine Ev_BinOp ?_
            refine Ev_loc ⟨rfl, rfl, rfl⟩ rfl g6 ?_
            refine Ev_int ?_
            refine Op_sub ?_
            refine Op_subL tb.at_ (by omega) (by rw [ip]; exact ewp1) ?_
            refine Ev_BinOp ?_
            refine Ev_loc ⟨rfl, rfl, rfl⟩ rfl g7 ?_
            refine Ev_int ?_
            refine Op_sub ?_
            refine Op_subL cwp1 (by omega) (by rw [iq]; exact trow_at (by omega)) ?_
            refine Ev_loc ⟨rfl, rfl, rfl⟩ rfl (by show some _ = some (AV.int kk); rw [if_pos c0]; rfl) (Op_add (Op_eq rfl rfl ⟨_, rfl, rfl, ?_⟩))
            unfold keepQ
            rw [ek]
            simp [c0.1, c0.2, aeq]
      rintro b st₂ ⟨rfl, rfl⟩
      have lF' : (F.map spAV).length < 100000 := by rw [List.length_map]; omega
      have ebt : ∀ s : Sp, ∀ p' q' : Nat, bt (KL l1 l2) (f + 1) p q = bt (KL l1 l2) f p' q' ++ [s] → bt (KL l1 l2) f p' q' ++ (F ++ [s]).reverse = bt (KL l1 l2) (l1.length + l2.length) l1.length l2.length := fun s p' q' e => by
        rw [List.reverse_append, ← ef, e]; simp
      have adv : ∀ s : Sp, ∀ p' q' : Nat, p' + q' < p + q → p' ≤ l1.length → q' ≤ l2.length → p' + q' + 1 = p + q ∨ p' + q' + 2 = p + q → bt (KL l1 l2) (f + 1) p q = bt (KL l1 l2) f p' q' ++ [s] →
          Tb hp (KL l1 l2) l2.length r rows (upd st''.hp D (.list (F.map spAV ++ [spAV s]))) ∧ ∃ F' : List Sp, And3 (upd st''.hp D (.list (F.map spAV ++ [spAV s])) D = some (.list (F'.map spAV))) (F'.length + p' + q' ≤ 200) (∃ f, p' + q' ≤ f ∧ bt (KL l1 l2) f p' q' ++ F'.reverse = bt (KL l1 l2) (l1.length + l2.length) l1.length l2.length) := fun s p' q' h1 h2 h3 h4 e =>
        ⟨tb.put D0 nDr nDn, F ++ [s], by rw [List.map_append]; exact upd_same, by rw [List.length_append, List.length_singleton]; omega, f, by omega, ebt s p' q' e⟩
      have hne : ¬ (p = 0 ∧ q = 0) := by omega
      refine ⟨fun hk => ?_, fun hk => ?_⟩
      · have hk' := hk
        simp only [keepQ, Bool.and_eq_true, decide_eq_true_eq] at hk'
        obtain ⟨⟨p0, q0⟩, _⟩ := hk'
        have e : bt (KL l1 l2) (f + 1) p q = bt (KL l1 l2) f (p - 1) (q - 1) ++ [.keep (p - 1) (q - 1)] := by
          conv => lhs; unfold bt
          rw [if_neg hne, if_pos hk]
        have c1 : (p : Int) - 1 = ((p - 1 : Nat) : Int) := by omega
        have c2 : (q : Int) - 1 = ((q - 1 : Nat) : Int) := by omega
        refine Ex_cons (Ex_Expr (Ev_Meth (Ev_loc ⟨rfl, rfl, rfl⟩ rfl g5 ⟨_, Mth_append eF, fun h _ => plainF_keeps rfl h, ?_⟩)))
        refine Evs_cons ?_
        refine Ev_Tuple ?_
        refine Evs_cons ?_
        refine Ev_str ?_
        refine Evs_cons ?_
        refine Ev_BinOp ?_
        refine Ev_loc ⟨rfl, rfl, rfl⟩ rfl g6 ?_
        refine Ev_int ?_
        refine Op_sub ?_
        refine Evs_cons ?_
        refine Ev_BinOp ?_
        refine Ev_loc ⟨rfl, rfl, rfl⟩ rfl g7 ?_
        refine Ev_int ?_
        refine Op_sub ?_
        refine Evs_nil ?_
        rw [c1, c2]
        refine ⟨by simp, Evs_nil (Op_append eF lF' ⟨rfl, ?_⟩)⟩
        refine Ex_cons ?_
        refine Ex_AssignSwap ?_
        refine Ev_Tuple ?_
        refine Evs_cons ?_
        refine Ev_BinOp ?_
        refine Ev_loc ⟨rfl, rfl, rfl⟩ rfl g6 ?_
        refine Ev_int ?_
        refine Op_sub ?_
        refine Evs_cons ?_
        refine Ev_BinOp ?_
        refine Ev_loc ⟨rfl, rfl, rfl⟩ rfl g7 ?_
        refine Ev_int ?_
        refine Op_sub ?_
        refine Evs_nil ?_
        rw [c1, c2]
        refine ⟨by simp, _, rfl, rfl, ?_⟩
        refine UnL_cons ?_
        refine Un1_bind ?_
        refine Un_loc ⟨rfl, rfl, rfl⟩ rfl ?_
        refine UnL_cons ?_
        refine Un1_bind ?_
        refine Un_loc ⟨rfl, rfl, rfl⟩ rfl ?_
        refine UnL_nil ?_
        refine Ex_nil ?_
        refine Ex_nil ?_
        refine ⟨_, by omega, p - 1, q - 1, rfl, by omega, by omega, adv _ _ _ (by omega) (by omega) (by omega) (by omega) e, g1, g2, g3, g4, g5, rfl, rfl⟩
      · refine Ex_cons (Ex_If (Tst.mono (k := fun b st₂ => st₂ = st''.set "kept" (if 0 < p ∧ 0 < q then optAV (KL l1 l2 (p - 1) (q - 1)) else .none) ∧ b = decide (0 < p ∧ T (KL l1 l2) p q = T (KL l1 l2) (p - 1) q + 1)) ?_ ?_))
        · refine Tst_And2 (Tst_Compare (Ev_loc ⟨rfl, rfl, rfl⟩ rfl g6 (Ev_int (Op_gt ⟨_, rfl, fun hb => ⟨rfl, ?_⟩, fun hb => ?_⟩))))
          · have := of_decide_eq_false hb
            exact (decide_eq_false (by omega)).symm
          · have p0 : 0 < p := by have := of_decide_eq_true hb; omega
            refine Tst_Compare ?_
            refine Ev_Sub ?_
            refine Ev_Sub ?_
            refine Ev_loc ⟨rfl, rfl, rfl⟩ rfl g4 ?_
            refine Ev_loc ⟨rfl, rfl, rfl⟩ rfl g6 ?_
            refine Op_subL tb.at_ (by omega) (by rw [Int.toNat_natCast]; exact ewp) ?_
            refine Ev_loc ⟨rfl, rfl, rfl⟩ rfl g7 ?_
            refine Op_subL cwp (by omega) (by rw [Int.toNat_natCast]; exact trow_at hqm) ?_
            refine Ev_BinOp ?_
            refine Ev_Sub ?_
            refine Ev_Sub ?_
            refine Ev_loc ⟨rfl, rfl, rfl⟩ rfl g4 ?_
            refine Ev_BinOp ?_
            refine Ev_loc ⟨rfl, rfl, rfl⟩ rfl g6 ?_
            refine Ev_int ?_
            refine Op_sub ?_
            refine Op_subL tb.at_ (by omega) (by rw [ip]; exact ewp1) ?_
            refine Ev_loc ⟨rfl, rfl, rfl⟩ rfl g7 ?_
            refine Op_subL cwp1 (by omega) (by rw [Int.toNat_natCast]; exact trow_at hqm) ?_
            refine Ev_Sub ?_
            refine Ev_Attr ?_
            refine Ev_Attr ?_
            refine Ev_loc ⟨rfl, rfl, rfl⟩ rfl g1 ?_
            refine Op_attr (g _ _ hm) (g _ _ hdm) rfl (get_85_one hK) (hasd_85 hK) (fnd_85_one hK) (noGet0 hK) ?_
            refine Op_attr (g _ _ x1) (g _ _ y1) rfl (get_148_sizes hK) (hasd_148 hK) (fnd_148_sizes hK) (noGet0 hK) ?_
            refine Ev_Sub ?_
            refine Ev_loc ⟨rfl, rfl, rfl⟩ rfl g2 ?_
            refine Ev_BinOp ?_
            refine Ev_loc ⟨rfl, rfl, rfl⟩ rfl g6 ?_
            refine Ev_int ?_
            refine Op_sub ?_
            refine Op_subL (g _ _ o1) (by omega) (by rw [ip]; exact range_at (by omega)) ?_
            refine Op_subL (g _ _ s1) (by omega) (by rw [Int.toNat_natCast]; exact sizes_i (by omega)) ?_
            refine Op_add ?_
            refine Op_eq rfl rfl ⟨_, rfl, rfl, ?_⟩
            simp [aeq, p0]
            exact Bool.beq_eq_decide_eq _ _
        rintro b st₂ ⟨rfl, rfl⟩
        refine ⟨fun hb => ?_, fun hb => ?_⟩
        · have hb := of_decide_eq_true hb
          have e : bt (KL l1 l2) (f + 1) p q = bt (KL l1 l2) f (p - 1) q ++ [.out (p - 1)] := by
            conv => lhs; unfold bt
            rw [if_neg hne, if_neg (by rw [hk]; simp), if_pos hb]
          have c1 : (p : Int) - 1 = ((p - 1 : Nat) : Int) := by omega
          refine Ex_cons (Ex_Expr (Ev_Meth (Ev_loc ⟨rfl, rfl, rfl⟩ rfl g5 ⟨_, Mth_append eF, fun h _ => plainF_keeps rfl h, ?_⟩)))
          refine Evs_cons ?_
          refine Ev_Tuple ?_
          refine Evs_cons ?_
          refine Ev_str ?_
          refine Evs_cons ?_
          refine Ev_BinOp ?_
          refine Ev_loc ⟨rfl, rfl, rfl⟩ rfl g6 ?_
          refine Ev_int ?_
          refine Op_sub ?_
          refine Evs_nil ?_
          rw [c1]
          refine ⟨by simp, Evs_nil (Op_append eF lF' ⟨rfl, ?_⟩)⟩
          refine Ex_cons ?_
          refine Ex_Assign ?_
          refine Ev_BinOp ?_
          refine Ev_loc ⟨rfl, rfl, rfl⟩ rfl g6 ?_
          refine Ev_int ?_
          refine Op_sub ?_
          refine Un_loc ⟨rfl, rfl, rfl⟩ rfl ?_
          rw [c1]
          refine Ex_nil ?_
          refine Ex_nil ?_
          refine Ex_nil ?_
          refine ⟨_, by omega, p - 1, q, rfl, by omega, by omega, adv _ _ _ (by omega) (by omega) (by omega) (by omega) e, g1, g2, g3, g4, g5, rfl, g7⟩
        · have hb := of_decide_eq_false hb
          have q0 : 0 < q := by
            rcases Nat.eq_zero_or_pos q with z | z
            · subst z
              exact absurd ⟨by omega, by rw [T_p0, T_p0]; omega⟩ hb
            · exact z
          have e : bt (KL l1 l2) (f + 1) p q = bt (KL l1 l2) f p (q - 1) ++ [.ins p (q - 1)] := by
            conv => lhs; unfold bt
            rw [if_neg hne, if_neg (by rw [hk]; simp), if_neg hb]
          have c2 : (q : Int) - 1 = ((q - 1 : Nat) : Int) := by omega
          refine Ex_cons (Ex_Expr (Ev_Meth (Ev_loc ⟨rfl, rfl, rfl⟩ rfl g5 ⟨_, Mth_append eF, fun h _ => plainF_keeps rfl h, ?_⟩)))
          refine Evs_cons ?_
          refine Ev_Tuple ?_
          refine Evs_cons ?_
          refine Ev_str ?_
          refine Evs_cons ?_
          refine Ev_loc ⟨rfl, rfl, rfl⟩ rfl g6 ?_
          refine Evs_cons ?_
          refine Ev_BinOp ?_
          refine Ev_loc ⟨rfl, rfl, rfl⟩ rfl g7 ?_
          refine Ev_int ?_
          refine Op_sub ?_
          refine Evs_nil ?_
          rw [c2]
          refine ⟨by simp, Evs_nil (Op_append eF lF' ⟨rfl, ?_⟩)⟩
          refine Ex_cons ?_
          refine Ex_Assign ?_
          refine Ev_BinOp ?_
          refine Ev_loc ⟨rfl, rfl, rfl⟩ rfl g7 ?_
          refine Ev_int ?_
          refine Op_sub ?_
          refine Un_loc ⟨rfl, rfl, rfl⟩ rfl ?_
          rw [c2]
          refine Ex_nil ?_
          refine Ex_nil ?_
          refine Ex_nil ?_
          refine ⟨_, by omega, p, q - 1, rfl, by omega, by omega, adv _ _ _ (by omega) (by omega) (by omega) (by omega) e, g1, g2, g3, g4, g5, g6, rfl⟩
    · have hz := of_decide_eq_false hb
      obtain ⟨rfl, rfl⟩ : p = 0 ∧ q = 0 := by omega
      rw [bt_end, List.nil_append] at ef
      exact ⟨rfl, ⟨g, F, eF, by omega, ef⟩, g5⟩
  · rintro fl st ⟨rfl, ⟨g, F, eF, lF, er⟩, g5⟩
    refine Ex_cons (Ex_Return (Ev_SubRev (Ev_loc ⟨rfl, rfl, rfl⟩ rfl g5 ⟨D, _, rfl, Ev_UnaryOp (Ev_int (Op_neg ⟨rfl, eF, fun R hR => ?_⟩))⟩)))
    exact h R _ (g.thenNew hR) (g.gone hR) (by rw [← er, List.map_reverse]; exact upd_same)
end
end Mu
end
noncomputable section
open PySem PySem.W PySem.Calls PyProof.Rows
set_option Elab.async false
set_option linter.unusedVariables false
set_option maxRecDepth 100000
set_option maxHeartbeats 4000000
namespace Mu
def taskOf (path : List AV) (l2 : List Lf) : Sp → AV
  | .keep a b => .tup [.str "pair", .tup (path ++ [.int a]), .int a, .int b]
  | .out a => .tup [.str "delete", .tup (path ++ [.int a])]
  | .ins a b => .tup [.str "insert", .tup (path ++ [.int a]), .tup (formAt l2 b)]
theorem map_take {α : Type} (f : α → AV) {l : List α} {i : Nat} (h : i < l.length) : (l.take (i + 1)).map f = (l.take i).map f ++ [f l[i]] := take_map h
def walk (l1 l2 : List Lf) : List Sp := bt (KL l1 l2) (l1.length + l2.length) l1.length l2.length

section
variable {c : Cx} {P : Params} (hK : c.K = KK P)
include hK

theorem inner_ {N : Nat} {m one other : Addr} {l1 l2 : List Lf} {es : List (List Int × AV)} {path : List AV} {k : AV → AH → Prop} {hp : AH} (b1 : l1.length ≤ 100) (b2 : l2.length ≤ 100) (lp : path.length ≤ 900)
    (W1 : Flat hp one (outerL l1) (kidsL l1)) (W2 : Flat hp other (outerL l2) (kidsL l2)) (M : Mat hp m one other es) (V : Vis l1 l2 (l1.length + 1) 0 es)
    (h : ∀ r hp', Grow hp hp' → hp r = none → hp' r = some (.list ((walk l1 l2).map (taskOf path l2))) → k (.ref r) hp') : Cal c (N + 3) (.ref 103) [.ref m, .int l1.length, .int l2.length, .tup path] k hp := by
  obtain ⟨dm, cd, hm, hdm, hc⟩ := id M
  obtain ⟨d1, f1, cs1, sz1, pa1, pl1, kids1, x1, y1, z1, u1, v1, w1, a1, s1⟩ := id W1
  obtain ⟨d2, f2, cs2, sz2, pa2, pl2, kids2, x2, y2, z2, u2, v2, w2, a2, s2⟩ := id W2
  have kl1 := kidsL_len l1
  have kl2 := kidsL_len l2
  obtain ⟨q1, k1, o1⟩ := Flat.kid (x := 0) (F := []) (dx := 0) (cs := 0) v1 w1 a1 (Nat.le_refl _)
  obtain ⟨q2, k2, o2⟩ := Flat.kid (x := 0) (F := []) (dx := 0) (cs := 0) v2 w2 a2 (Nat.le_refl _)
  rw [full_self, kl1] at o1
  rw [full_self, kl2] at o2
  rw [kl1] at k1
  rw [kl2] at k2
  refine Cal_fn (⟨⟨_, _, _, by rw [hK]; k_is⟩, by rw [hK]; k_is, by exact rfl, rfl, rfl, rfl, (by intro vs hv; obtain ⟨_, vs1, rfl, hv1⟩ := vlenS (n := 3) hv; obtain ⟨_, vs2, rfl, hv2⟩ := vlenS (n := 2) hv1; obtain ⟨_, vs3, rfl, hv3⟩ := vlenS (n := 1) hv2; obtain ⟨_, vs4, rfl, hv4⟩ := vlenS (n := 0) hv3; obtain rfl := vlen0 hv4; rfl), (by decide), allCons (by first | exact .inl rfl | exact .inr ⟨rfl, fun _ => rfl⟩) <| allCons (by first | exact .inl rfl | exact .inr ⟨rfl, fun _ => rfl⟩) <| allCons (by first | exact .inl rfl | exact .inr ⟨rfl, fun _ => rfl⟩) <| allCons (by first | exact .inl rfl | exact .inr ⟨rfl, fun _ => rfl⟩) <| allNil, rfl, rfl, rfl⟩ : Fn c 103 ⟨_, _, ⟨_, _, _, _, _, _, _⟩, .stmts (_ :: _), ⟨_, _, _, _, _⟩, _, _, _, _, _, _, _, _, _, _⟩ (_ :: _) ["matching", "i", "j", "path"]) rfl fun L hL => ?_
  refine Ex_cons ?_
  refine Ex_AssignSwap ?_
  refine Ev_Tuple ?_
  refine Evs_cons ?_
  refine Ev_Sub ?_
  refine Ev_Attr ?_
  refine Ev_Attr ?_
  refine Ev_loc ⟨rfl, rfl, rfl⟩ rfl rfl ?_
  refine Op_attr hm hdm rfl (get_85_one hK) (hasd_85 hK) (fnd_85_one hK) (noGet0 hK) ?_
  refine Op_attr x1 y1 rfl (get_148_children hK) (hasd_148 hK) (fnd_148_children hK) (noGet0 hK) ?_
  refine Ev_loc ⟨rfl, rfl, rfl⟩ rfl rfl ?_
  refine Op_subL u1 (by omega) (by rw [Int.toNat_natCast]; exact k1) ?_
  refine Evs_cons ?_
  refine Ev_Sub ?_
  refine Ev_Attr ?_
  refine Ev_Attr ?_
  refine Ev_loc ⟨rfl, rfl, rfl⟩ rfl rfl ?_
  refine Op_attr hm hdm rfl (get_85_other hK) (hasd_85 hK) (fnd_85_other hK) (noGet0 hK) ?_
  refine Op_attr x2 y2 rfl (get_148_children hK) (hasd_148 hK) (fnd_148_children hK) (noGet0 hK) ?_
  refine Ev_loc ⟨rfl, rfl, rfl⟩ rfl rfl ?_
  refine Op_subL u2 (by omega) (by rw [Int.toNat_natCast]; exact k2) ?_
  refine Evs_nil ?_
  refine ⟨by simp, _, rfl, rfl, ?_⟩
  refine UnL_cons ?_
  refine Un1_bind ?_
  refine Un_loc ⟨rfl, rfl, rfl⟩ rfl ?_
  refine UnL_cons ?_
  refine Un1_bind ?_
  refine Un_loc ⟨rfl, rfl, rfl⟩ rfl ?_
  refine UnL_nil ?_
  refine Ex_cons ?_
  refine Ex_Assign ?_
  refine Ev_List ?_
  refine Evs_nil ?_
  refine ⟨by simp, fun D hD => ?_⟩
  refine Un_loc ⟨rfl, rfl, rfl⟩ rfl ?_
  have D0 : hp D = none := hD
  have g0 : Grow hp (upd hp D (.list [])) := Grow.new D0
  refine Ex_cons (Ex_For (Src_list ?_))
  refine Ev_Meth (Ev_loc ⟨rfl, rfl, rfl⟩ rfl rfl ⟨_, Mth_inst (g0 _ _ hm) (g0 _ _ hdm) rfl (get_85_steps hK) (fnd_85_steps hK) (isf_68 hK), keeps_K (keep_68 hK), ?_⟩)
  refine Evs_cons ?_
  refine Ev_loc ⟨rfl, rfl, rfl⟩ rfl rfl ?_
  refine Evs_cons ?_
  refine Ev_loc ⟨rfl, rfl, rfl⟩ rfl rfl ?_
  refine Evs_nil ?_
  refine OpL_Cal (steps_ hK b1 b2 (W1.grow g0) (W2.grow g0) ⟨dm, cd, g0 _ _ hm, g0 _ _ hdm, g0 _ _ hc⟩ V fun R hp1 g1 R0 eR => ?_)
  have nDR : D ≠ R := ne_at (upd_same (f := hp) (a := D) (o := AO.list [])) R0
  have eD := g1 _ _ (upd_same (f := hp) (a := D) (o := AO.list []))
  have lw : (walk l1 l2).length ≤ 200 := Nat.le_trans (bt_len _ _ _ _) (by omega)
  refine ⟨R, _, rfl, eR, fun t st => And6 (And3 (Grow hp st.hp) (st.hp R = some (.list ((walk l1 l2).map spAV))) (st.hp D = some (.list (((walk l1 l2).take t).map (taskOf path l2))))) (st.loc "matching" = some (.ref m)) (st.loc "ours" = some (.ref q1)) (st.loc "theirs" = some (.ref q2)) (st.loc "path" = some (.tup path)) (st.loc "found" = some (.ref D)),
    ⟨⟨g0.trans g1, eR, by simpa using eD⟩, rfl, rfl, rfl, rfl, rfl⟩, fun t st ht ⟨⟨g, qR, qD⟩, e1, e2, e3, e4, e5⟩ => ⟨qR, ?_⟩, fun st ⟨⟨g, qR, qD⟩, e1, e2, e3, e4, e5⟩ => ⟨qR, ?_⟩⟩
  · have ht : t < (walk l1 l2).length := by rw [List.length_map] at ht; exact ht
    have sin := bt_in (KL l1 l2) (l1.length + l2.length) l1.length l2.length l1.length l2.length (Nat.le_refl _) (Nat.le_refl _) _ (List.getElem_mem ht)
    have et := map_take (taskOf path l2) ht
    have ei : ((walk l1 l2).map spAV).getD t .none = spAV (walk l1 l2)[t] := getD_map ht
    have len : (((walk l1 l2).take t).map (taskOf path l2)).length < 100000 := by rw [List.length_map, List.length_take]; omega
    refine Un1_of ei ?_
    change spIn l1.length l2.length (walk l1 l2)[t] at sin
    generalize (walk l1 l2)[t] = s at sin et
    have fin : And3 (Grow hp (upd st.hp D (.list (((walk l1 l2).take t).map (taskOf path l2) ++ [taskOf path l2 s])))) (upd st.hp D (.list (((walk l1 l2).take t).map (taskOf path l2) ++ [taskOf path l2 s])) R = some (.list ((walk l1 l2).map spAV))) (upd st.hp D (.list (((walk l1 l2).take t).map (taskOf path l2) ++ [taskOf path l2 s])) D = some (.list (((walk l1 l2).take (t + 1)).map (taskOf path l2)))) := ⟨g.thenUpd D0, upd_off qR nDR.symm, by rw [et]; exact upd_same⟩
    cases s with
    | keep a b =>
      obtain ⟨sa, sb⟩ := sin
      refine Un1_Name ?_
      refine Un_loc ⟨rfl, rfl, rfl⟩ rfl ?_
      refine Ex_cons ?_
      refine Ex_If ?_
      refine Tst_Compare ?_
      refine Ev_Sub ?_
      refine Ev_loc ⟨rfl, rfl, rfl⟩ rfl rfl ?_
      refine Ev_int ?_
      refine Op_subT (by decide) (by simp) rfl ?_
      refine Ev_str ?_
      refine Op_eq strEq_ok strEq_ok ⟨_, rfl, fun hb => ?_, fun hb => ?_⟩
      · refine Ex_cons (Ex_Expr (Ev_Meth (Ev_loc ⟨rfl, rfl, rfl⟩ rfl e5 ⟨_, Mth_append qD, fun h _ => plainF_keeps rfl h, ?_⟩)))
        refine Evs_cons ?_
        refine Ev_Tuple ?_
        refine Evs_cons ?_
        refine Ev_str ?_
        refine Evs_cons ?_
        refine Ev_BinOp ?_
        refine Ev_loc ⟨rfl, rfl, rfl⟩ rfl e4 ?_
        refine Ev_Tuple ?_
        refine Evs_cons ?_
        refine Ev_Sub ?_
        refine Ev_loc ⟨rfl, rfl, rfl⟩ rfl rfl ?_
        refine Ev_int ?_
        refine Op_subT (by decide) (by simp) rfl ?_
        refine Evs_nil ?_
        refine ⟨by simp, Op_addT (by simp; omega) ?_⟩
        refine Evs_cons ?_
        refine Ev_Sub ?_
        refine Ev_loc ⟨rfl, rfl, rfl⟩ rfl e2 ?_
        refine Ev_Sub ?_
        refine Ev_loc ⟨rfl, rfl, rfl⟩ rfl rfl ?_
        refine Ev_int ?_
        refine Op_subT (by decide) (by simp) rfl ?_
        refine Op_subL (g _ _ o1) (by omega) (by rw [Int.toNat_natCast]; exact range_at sa) ?_
        refine Evs_cons ?_
        refine Ev_Sub ?_
        refine Ev_loc ⟨rfl, rfl, rfl⟩ rfl e3 ?_
        refine Ev_Sub ?_
        refine Ev_loc ⟨rfl, rfl, rfl⟩ rfl rfl ?_
        refine Ev_int ?_
        refine Op_subT (by decide) (by simp) rfl ?_
        refine Op_subL (g _ _ o2) (by omega) (by rw [Int.toNat_natCast]; exact range_at sb) ?_
        refine Evs_nil ?_
        exact ⟨by simp, Evs_nil (Op_append qD len ⟨rfl, Ex_nil (Ex_nil ⟨fin, e1, e2, e3, e4, e5⟩)⟩)⟩
      · simp [aeq] at hb
    | out a =>
      refine Un1_Name ?_
      refine Un_loc ⟨rfl, rfl, rfl⟩ rfl ?_
      refine Ex_cons ?_
      refine Ex_If ?_
      refine Tst_Compare ?_
      refine Ev_Sub ?_
      refine Ev_loc ⟨rfl, rfl, rfl⟩ rfl rfl ?_
      refine Ev_int ?_
      refine Op_subT (by decide) (by simp) rfl ?_
      refine Ev_str ?_
      refine Op_eq strEq_ok strEq_ok ⟨_, rfl, fun hb => ?_, fun hb => ?_⟩
      · exact absurd hb (by decide +kernel)
      refine Ex_cons ?_
      refine Ex_If ?_
      refine Tst_Compare ?_
      refine Ev_Sub ?_
      refine Ev_loc ⟨rfl, rfl, rfl⟩ rfl rfl ?_
      refine Ev_int ?_
      refine Op_subT (by decide) (by simp) rfl ?_
      refine Ev_str ?_
      refine Op_eq strEq_ok strEq_ok ⟨_, rfl, fun hb => ?_, fun hb => ?_⟩
      · refine Ex_cons (Ex_Expr (Ev_Meth (Ev_loc ⟨rfl, rfl, rfl⟩ rfl e5 ⟨_, Mth_append qD, fun h _ => plainF_keeps rfl h, ?_⟩)))
        refine Evs_cons ?_
        refine Ev_Tuple ?_
        refine Evs_cons ?_
        refine Ev_str ?_
        refine Evs_cons ?_
        refine Ev_BinOp ?_
        refine Ev_loc ⟨rfl, rfl, rfl⟩ rfl e4 ?_
        refine Ev_Tuple ?_
        refine Evs_cons ?_
        refine Ev_Sub ?_
        refine Ev_loc ⟨rfl, rfl, rfl⟩ rfl rfl ?_
        refine Ev_int ?_
        refine Op_subT (by decide) (by simp) rfl ?_
        refine Evs_nil ?_
        refine ⟨by simp, Op_addT (by simp; omega) ?_⟩
        refine Evs_nil ?_
        exact ⟨by simp, Evs_nil (Op_append qD len ⟨rfl, Ex_nil (Ex_nil (Ex_nil ⟨fin, e1, e2, e3, e4, e5⟩))⟩)⟩
      · simp [aeq] at hb
    | ins a b =>
      obtain ⟨sa, sb⟩ := sin
      refine Un1_Name ?_
      refine Un_loc ⟨rfl, rfl, rfl⟩ rfl ?_
      refine Ex_cons ?_
      refine Ex_If ?_
      refine Tst_Compare ?_
      refine Ev_Sub ?_
      refine Ev_loc ⟨rfl, rfl, rfl⟩ rfl rfl ?_
      refine Ev_int ?_
      refine Op_subT (by decide) (by simp) rfl ?_
      refine Ev_str ?_
      refine Op_eq strEq_ok strEq_ok ⟨_, rfl, fun hb => ?_, fun hb => ?_⟩
      · exact absurd hb (by decide +kernel)
      refine Ex_cons ?_
      refine Ex_If ?_
      refine Tst_Compare ?_
      refine Ev_Sub ?_
      refine Ev_loc ⟨rfl, rfl, rfl⟩ rfl rfl ?_
      refine Ev_int ?_
      refine Op_subT (by decide) (by simp) rfl ?_
      refine Ev_str ?_
      refine Op_eq strEq_ok strEq_ok ⟨_, rfl, fun hb => ?_, fun hb => ?_⟩
      · exact absurd hb (by decide +kernel)
      · refine Ex_cons (Ex_Expr (Ev_Meth (Ev_loc ⟨rfl, rfl, rfl⟩ rfl e5 ⟨_, Mth_append qD, fun h _ => plainF_keeps rfl h, ?_⟩)))
        refine Evs_cons ?_
        refine Ev_Tuple ?_
        refine Evs_cons ?_
        refine Ev_str ?_
        refine Evs_cons ?_
        refine Ev_BinOp ?_
        refine Ev_loc ⟨rfl, rfl, rfl⟩ rfl e4 ?_
        refine Ev_Tuple ?_
        refine Evs_cons ?_
        refine Ev_Sub ?_
        refine Ev_loc ⟨rfl, rfl, rfl⟩ rfl rfl ?_
        refine Ev_int ?_
        refine Op_subT (by decide) (by simp) rfl ?_
        refine Evs_nil ?_
        refine ⟨by simp, Op_addT (by simp; omega) ?_⟩
        refine Evs_cons ?_
        refine Ev_Sub ?_
        refine Ev_Attr ?_
        refine Ev_Attr ?_
        refine Ev_loc ⟨rfl, rfl, rfl⟩ rfl e1 ?_
        refine Op_attr (g _ _ hm) (g _ _ hdm) rfl (get_85_other hK) (hasd_85 hK) (fnd_85_other hK) (noGet0 hK) ?_
        refine Op_attr (g _ _ x2) (g _ _ y2) rfl (get_148_forms hK) (hasd_148 hK) (fnd_148_forms hK) (noGet0 hK) ?_
        refine Ev_Sub ?_
        refine Ev_loc ⟨rfl, rfl, rfl⟩ rfl e3 ?_
        refine Ev_Sub ?_
        refine Ev_loc ⟨rfl, rfl, rfl⟩ rfl rfl ?_
        refine Ev_int ?_
        refine Op_subT (by decide) (by simp) rfl ?_
        refine Op_subL (g _ _ o2) (by omega) (by rw [Int.toNat_natCast]; exact range_at sb) ?_
        refine Op_subL (g _ _ z2) (by omega) (by rw [Int.toNat_natCast]; exact form_at (by omega)) ?_
        refine Evs_nil ?_
        exact ⟨by simp, Evs_nil (Op_append qD len ⟨rfl, Ex_nil (Ex_nil (Ex_nil ⟨fin, e1, e2, e3, e4, e5⟩))⟩)⟩
  · replace qD : st.hp D = some (.list (((walk l1 l2).take (walk l1 l2).length).map (taskOf path l2))) := by rw [List.length_map] at qD; exact qD
    rw [List.take_length] at qD
    refine Ex_cons (Ex_Return (Ev_loc ⟨rfl, rfl, rfl⟩ rfl e5 ?_))
    exact h D _ g D0 qD
end
end Mu
end
noncomputable section
open PySem PySem.W PySem.Calls PyProof.Rows
set_option Elab.async false
set_option linter.unusedVariables false
set_option maxRecDepth 100000
set_option maxHeartbeats 4000000
namespace Mu
section
variable {c : Cx} {N : Nat} {ow : List Addr} {env : Env} {st : St}
/-- a list of the ground -/
def Base (c : Cx) (l : Addr) (ns : List Int) : Prop := ∃ vs, c.h₀.IsList l (List.toArray vs) ∧ IntsAre vs ns
theorem Op_lenBase {l : Addr} {ns : List Int} {k : AV → St → Prop} (B : Base c l ns) (hz : ns.length ≤ 1000) (h : k (.int ns.length) st) : OpL c N ow env (fun vs => call (.builtin "len") vs) [.ref l] k st := fun A P s vs R H F V => by
  cases V with
  | cons V r =>
  cases r; cases V
  obtain ⟨vs, hl, hi⟩ := B
  have hl' : s.heap.IsList l vs.toArray := hl.at fun o e => H.keep _ o e
  have e := hi.length
  exact len_list hl' (by rw [List.size_toArray, e]; omega) (by rw [List.size_toArray, e]; exact ⟨_, st, H, F, .int _ _, .toks _ _, h⟩)
theorem Op_subBase {value slice : Expr} {l : Addr} {ns : List Int} {i a : Int} {k : AV → St → Prop} (B : Base c l ns) (hz : ns.length ≤ 1000) (h0 : 0 ≤ i) (ha : ns[i.toNat]? = some a) (h : k (.int a) st) (hs : subPlain slice := by intro _ _; with_unfolding_all rfl) :
    Op2 c N ow env (fun o i => subscriptTail value slice o i) (.ref l) (.int i) k st := fun A P s v u R H F V W => by
  cases W; cases V
  obtain ⟨vs, hl, hi⟩ := B
  have hl' : s.heap.IsList l vs.toArray := hl.at fun o e => H.keep _ o e
  obtain ⟨t, e⟩ := hi.get i.toNat a ha
  have hlt : i.toNat < ns.length := (List.getElem?_eq_some_iff.mp ha).1
  exact tail_any hl'.typeIs slot_list_getitem.lookup (wpAny_getItem_list hl' h0 (by omega) (by simpa using e) ⟨_, st, H, F, .int _ _, .refl _, h⟩) (hs _ _)
end
theorem bits_small {x : Int} (h : x.natAbs < 2 ^ 63) : Builtin.Int.intBits x ≤ 64 := by
  unfold Builtin.Int.intBits
  split
  · decide
  · rename_i h0
    have hne : x.natAbs ≠ 0 := by
      intro z
      exact h0 (by have : x = 0 := Int.natAbs_eq_zero.mp z; rw [this]; rfl)
    have := (Nat.log2_lt hne (k := 63)).mpr h
    omega
def SrcL (hp : AH) (s : Addr) : Prop := ∃ a b : Int, And4 (hp s = some (.list [.int a, .int b])) (0 ≤ a) (0 ≤ b) (b < 2147483647)

section
variable {c : Cx} {P : Params} (hK : c.K = KK P)
include hK

theorem pool_ {N : Nat} {l : Addr} {ns : List Int} {k : AV → AH → Prop} {hp : AH} (B : Base c l ns) (hz : ns.length ≤ 1000) (h : ∀ s hp', Grow hp hp' → hp s = none → SrcL hp' s → k (.ref s) hp') : Cal c (N + 1) (.ref 159) [.ref l, .int 0] k hp := by
  refine Cal_fn (⟨⟨_, _, _, by rw [hK]; k_is⟩, by rw [hK]; k_is, by exact rfl, rfl, rfl, rfl, (by intro vs hv; obtain ⟨_, vs1, rfl, hv1⟩ := vlenS (n := 1) hv; obtain ⟨_, vs2, rfl, hv2⟩ := vlenS (n := 0) hv1; obtain rfl := vlen0 hv2; rfl), (by decide), allCons (by first | exact .inl rfl | exact .inr ⟨rfl, fun _ => rfl⟩) <| allCons (by first | exact .inl rfl | exact .inr ⟨rfl, fun _ => rfl⟩) <| allNil, rfl, rfl, rfl⟩ : Fn c 159 ⟨_, _, ⟨_, _, _, _, _, _, _⟩, .stmts (_ :: _), ⟨_, _, _, _, _⟩, _, _, _, _, _, _, _, _, _, _⟩ (_ :: _) ["script", "k"]) rfl fun L hL => ?_
  refine Ex_cons (Ex_Assign (Ev.mono (k := fun a st => (∃ i : Int, a = .int i) ∧ st = ⟨argsOf ["script", "k"] [.ref l, .int 0], hp⟩) ?_ ?_))
  · refine Ev_IfExp ?_
    refine Tst_Compare ?_
    refine Ev_loc ⟨rfl, rfl, rfl⟩ rfl rfl ?_
    refine Ev_CallB ⟨rfl, rfl, rfl⟩ rfl (g_len hK) rfl rfl ?_
    refine Evs_cons ?_
    refine Ev_loc ⟨rfl, rfl, rfl⟩ rfl rfl ?_
    refine Evs_nil ?_
    refine Op_lenBase B hz ?_
    refine Op_lt ?_
    refine ⟨_, rfl, fun hb => ?_, fun hb => ?_⟩
    · have hlt := of_decide_eq_true hb
      refine Ev_Sub ?_
      refine Ev_loc ⟨rfl, rfl, rfl⟩ rfl rfl ?_
      refine Ev_loc ⟨rfl, rfl, rfl⟩ rfl rfl ?_
      exact Op_subBase B hz (by decide) (List.getElem?_eq_getElem (by simp only [Int.toNat_zero]; omega)) ⟨⟨_, rfl⟩, rfl⟩
    · exact Ev_int ⟨⟨_, rfl⟩, rfl⟩
  rintro _ st ⟨⟨cell, rfl⟩, rfl⟩
  refine Un_loc ⟨rfl, rfl, rfl⟩ rfl ?_
  refine Ex_cons ?_
  refine Ex_Assign ?_
  refine Ev_CallB ⟨rfl, rfl, rfl⟩ rfl (g_max hK) rfl rfl ?_
  refine Evs_cons ?_
  refine Ev_loc ⟨rfl, rfl, rfl⟩ rfl rfl ?_
  refine Evs_cons ?_
  refine Ev_BinOp ?_
  refine Ev_UnaryOp ?_
  refine Ev_int ?_
  refine Op_neg ?_
  refine Ev_loc ⟨rfl, rfl, rfl⟩ rfl rfl ?_
  refine Op_sub ?_
  refine Evs_nil ?_
  refine Op_max ?_
  refine Un_loc ⟨rfl, rfl, rfl⟩ rfl ?_
  have hg : 0 ≤ max cell (-1 - cell) := by omega
  generalize max cell (-1 - cell) = great at hg
  refine Ex_cons ?_
  refine Ex_Assign ?_
  refine Ev_BinOp ?_
  refine Ev_BinOp ?_
  refine Ev_BinOp ?_
  refine Ev_BinOp ?_
  refine Ev_BinOp ?_
  refine Ev_BinOp ?_
  refine Ev_loc ⟨rfl, rfl, rfl⟩ rfl rfl ?_
  refine Ev_int ?_
  refine Op_mod (by decide) ?_
  refine Ev_BinOp ?_
  refine Ev_BinOp ?_
  refine Ev_int ?_
  refine Ev_loc ⟨rfl, rfl, rfl⟩ rfl rfl ?_
  refine Op_mul (IntMulOk.of_left (by decide)) ?_
  refine Ev_loc ⟨rfl, rfl, rfl⟩ rfl rfl ?_
  refine Op_mul (IntMulOk.of_right (by decide)) ?_
  refine Op_add ?_
  refine Ev_BinOp ?_
  refine Ev_int ?_
  refine Ev_loc ⟨rfl, rfl, rfl⟩ rfl rfl ?_
  refine Op_mul (IntMulOk.of_left (by decide)) ?_
  refine Op_add ?_
  refine Ev_int ?_
  refine Op_add ?_
  refine Ev_int ?_
  refine Op_mul (IntMulOk.of_right (by decide)) ?_
  refine Ev_int ?_
  refine Op_mod (by decide) ?_
  refine Un_loc ⟨rfl, rfl, rfl⟩ rfl ?_
  generalize hm : Int.fmod _ 2147483647 = mixed
  have hm0 : 0 ≤ mixed ∧ mixed < 2147483647 := by rw [← hm]; exact ⟨Int.fmod_nonneg_of_pos _ (by decide), Int.fmod_lt_of_pos _ (by decide)⟩
  refine Ex_cons ?_
  refine Ex_Return ?_
  refine Ev_List ?_
  refine Evs_cons ?_
  refine Ev_BinOp ?_
  refine Ev_loc ⟨rfl, rfl, rfl⟩ rfl rfl ?_
  refine Ev_CallB ⟨rfl, rfl, rfl⟩ rfl (g_int hK) rfl rfl ?_
  refine Evs_cons ?_
  refine Ev_Compare ?_
  refine Ev_loc ⟨rfl, rfl, rfl⟩ rfl rfl ?_
  refine Ev_BinOp ?_
  refine Ev_int ?_
  refine Ev_int ?_
  refine Op_pow (by decide) (by decide) ?_
  refine Op_ge ?_
  refine Evs_nil ?_
  refine Op_intB ?_
  refine Op_mul (IntMulOk.of_right (by split <;> decide)) ?_
  refine Evs_cons ?_
  refine Ev_loc ⟨rfl, rfl, rfl⟩ rfl rfl ?_
  refine Evs_nil ?_
  refine ⟨by simp, fun D hD => ?_⟩
  refine h D _ (Grow.new hD) hD ⟨_, _, upd_same, ?_, hm0.1, hm0.2⟩
  split
  · rw [Int.mul_one]; exact hg
  · rw [Int.mul_zero]; exact Int.le_refl _

theorem take_ {N : Nat} {s : Addr} {top : Int} {k : AV → AH → Prop} {hp : AH} (S : SrcL hp s) (h1 : 0 < top) (h2 : top ≤ 1000) (h : ∀ (r : Int) hp', 0 ≤ r → r < top → Gb [s] hp hp' → SrcL hp' s → k (.int r) hp') : Cal c (N + 1) (.ref 166) [.ref s, .int top] k hp := by
  obtain ⟨a, b, hs, a0, b0, b1⟩ := S
  refine Cal_fn (⟨⟨_, _, _, by rw [hK]; k_is⟩, by rw [hK]; k_is, by exact rfl, rfl, rfl, rfl, (by intro vs hv; obtain ⟨_, vs1, rfl, hv1⟩ := vlenS (n := 1) hv; obtain ⟨_, vs2, rfl, hv2⟩ := vlenS (n := 0) hv1; obtain rfl := vlen0 hv2; rfl), (by decide), allCons (by first | exact .inl rfl | exact .inr ⟨rfl, fun _ => rfl⟩) <| allCons (by first | exact .inl rfl | exact .inr ⟨rfl, fun _ => rfl⟩) <| allNil, rfl, rfl, rfl⟩ : Fn c 166 ⟨_, _, ⟨_, _, _, _, _, _, _⟩, .stmts (_ :: _), ⟨_, _, _, _, _⟩, _, _, _, _, _, _, _, _, _, _⟩ (_ :: _) ["source", "top"]) rfl fun L hL => ?_
  refine Ex_cons ?_
  refine Ex_If ?_
  refine Tst_Compare ?_
  refine Ev_Sub ?_
  refine Ev_loc ⟨rfl, rfl, rfl⟩ rfl rfl ?_
  refine Ev_int ?_
  refine Op_subL hs (by decide) rfl ?_
  refine Ev_int ?_
  refine Op_gt ?_
  refine ⟨_, rfl, fun hb => ?_, fun hb => ?_⟩
  · refine Ex_cons ?_
    refine Ex_Assign ?_
    refine Ev_BinOp ?_
    refine Ev_Sub ?_
    refine Ev_loc ⟨rfl, rfl, rfl⟩ rfl rfl ?_
    refine Ev_int ?_
    refine Op_subL hs (by decide) rfl ?_
    refine Ev_loc ⟨rfl, rfl, rfl⟩ rfl rfl ?_
    refine Op_mod (by omega) ?_
    refine Un_loc ⟨rfl, rfl, rfl⟩ rfl ?_
    refine Ex_cons ?_
    refine Ex_AssignSub ?_
    refine Ev_BinOp ?_
    refine Ev_Sub ?_
    refine Ev_loc ⟨rfl, rfl, rfl⟩ rfl rfl ?_
    refine Ev_int ?_
    refine Op_subL hs (by decide) rfl ?_
    refine Ev_loc ⟨rfl, rfl, rfl⟩ rfl rfl ?_
    refine Op_fdiv (by omega) (PyProof.noPylong_small (by omega)) ?_
    refine Ev_loc ⟨rfl, rfl, rfl⟩ rfl rfl ?_
    refine Ev_int ?_
    refine Un_setL hs (by decide) (by simp) ?_
    refine Ex_cons (Ex_Return (Ev_loc ⟨rfl, rfl, rfl⟩ rfl rfl ?_))
    exact h _ _ (Int.fmod_nonneg_of_pos _ h1) (Int.fmod_lt_of_pos _ h1) ((Gb.refl _ _).put (by simp)) ⟨_, _, upd_same, Int.fdiv_nonneg a0 (by omega), b0, b1⟩
  · refine Ex_nil ?_
    refine Ex_cons ?_
    refine Ex_AssignSub ?_
    refine Ev_BinOp ?_
    refine Ev_BinOp ?_
    refine Ev_BinOp ?_
    refine Ev_Sub ?_
    refine Ev_loc ⟨rfl, rfl, rfl⟩ rfl rfl ?_
    refine Ev_int ?_
    refine Op_subL hs (by decide) rfl ?_
    refine Ev_int ?_
    refine Op_mul (IntMulOk.of_right (by decide)) ?_
    refine Ev_int ?_
    refine Op_add ?_
    refine Ev_int ?_
    refine Op_mod (by decide) ?_
    refine Ev_loc ⟨rfl, rfl, rfl⟩ rfl rfl ?_
    refine Ev_int ?_
    refine Un_setL hs (by decide) (by simp) ?_
    generalize hm : Int.fmod (b * 39373 + 7) 2147483647 = b'
    have hm0 : 0 ≤ b' ∧ b' < 2147483647 := by rw [← hm]; exact ⟨Int.fmod_nonneg_of_pos _ (by decide), Int.fmod_lt_of_pos _ (by decide)⟩
    have hs' : upd hp s (.list [.int a, .int b']) s = some (.list [.int a, .int b']) := upd_same
    refine Ex_cons ?_
    refine Ex_Return ?_
    refine Ev_BinOp ?_
    refine Ev_BinOp ?_
    refine Ev_BinOp ?_
    refine Ev_BinOp ?_
    refine Ev_Sub ?_
    refine Ev_loc ⟨rfl, rfl, rfl⟩ rfl rfl ?_
    refine Ev_int ?_
    refine Op_subL hs' (by decide) rfl ?_
    refine Ev_Sub ?_
    refine Ev_loc ⟨rfl, rfl, rfl⟩ rfl rfl ?_
    refine Ev_int ?_
    refine Op_subL hs' (by decide) rfl ?_
    refine Op_mul ?_ ?_
    · have h63 : (2 : Nat) ^ 63 = 9223372036854775808 := by decide
      exact IntMulOk.of_right (bits_small (by rw [h63]; omega))
    refine Ev_int ?_
    refine Op_mod (by decide) ?_
    refine Ev_int ?_
    refine Op_fdiv (by decide) (PyProof.noPylong_small (by decide)) ?_
    refine Ev_loc ⟨rfl, rfl, rfl⟩ rfl rfl ?_
    refine Op_mod (by omega) ?_
    exact h _ _ (Int.fmod_nonneg_of_pos _ h1) (Int.fmod_lt_of_pos _ h1) ((Gb.refl _ _).put (by simp)) ⟨_, _, upd_same, a0, hm0.1, hm0.2⟩

theorem one_ {N : Nat} {s t : Addr} {items : List AV} {k : AV → AH → Prop} {hp : AH} (S : SrcL hp s) (ht : hp t = some (.list items)) (hst : s ≠ t) (h0 : 0 < items.length) (hz : items.length ≤ 1000)
    (h : ∀ (r : Nat) (hr : r < items.length) hp', Gb [s] hp hp' → SrcL hp' s → k items[r] hp') : Cal c (N + 2) (.ref 173) [.ref s, .ref t] k hp := by
  refine Cal_fn (⟨⟨_, _, _, by rw [hK]; k_is⟩, by rw [hK]; k_is, by exact rfl, rfl, rfl, rfl, (by intro vs hv; obtain ⟨_, vs1, rfl, hv1⟩ := vlenS (n := 1) hv; obtain ⟨_, vs2, rfl, hv2⟩ := vlenS (n := 0) hv1; obtain rfl := vlen0 hv2; rfl), (by decide), allCons (by first | exact .inl rfl | exact .inr ⟨rfl, fun _ => rfl⟩) <| allCons (by first | exact .inl rfl | exact .inr ⟨rfl, fun _ => rfl⟩) <| allNil, rfl, rfl, rfl⟩ : Fn c 173 ⟨_, _, ⟨_, _, _, _, _, _, _⟩, .stmts (_ :: _), ⟨_, _, _, _, _⟩, _, _, _, _, _, _, _, _, _, _⟩ (_ :: _) ["source", "things"]) rfl fun L hL => ?_
  refine Ex_cons ?_
  refine Ex_Return ?_
  refine Ev_Sub ?_
  refine Ev_loc ⟨rfl, rfl, rfl⟩ rfl rfl ?_
  refine Ev_CallF ⟨rfl, rfl, rfl⟩ rfl (g__law_take hK) (keep_166 hK) ?_
  refine Evs_cons ?_
  refine Ev_loc ⟨rfl, rfl, rfl⟩ rfl rfl ?_
  refine Evs_cons ?_
  refine Ev_CallB ⟨rfl, rfl, rfl⟩ rfl (g_len hK) rfl rfl ?_
  refine Evs_cons ?_
  refine Ev_loc ⟨rfl, rfl, rfl⟩ rfl rfl ?_
  refine Evs_nil ?_
  refine Op_lenL ht ?_
  refine Evs_nil ?_
  refine take_ hK S (by omega) (by omega) fun r hp' r0 r1 g S' => ?_
  have hlt : r.toNat < items.length := by omega
  refine Op_subL (g _ _ (by simpa using hst.symm) ht) r0 (List.getElem?_eq_getElem hlt) ?_
  exact h _ hlt _ g S'

theorem element_ {N : Nat} {name : Str} {ra ca : Addr} {rows : List Row} {ch : List AV} {k : AV → AH → Prop} {hp : AH} (hr : hp ra = some (.list (rows.map rowAV))) (hc : hp ca = some (.list ch)) (h : k (.tup (elemL name rows ch)) hp) :
    Cal c (N + 1) (.ref 180) [.str name, .ref ra, .ref ca] k hp := by
  refine Cal_fn (⟨⟨_, _, _, by rw [hK]; k_is⟩, by rw [hK]; k_is, by exact rfl, rfl, rfl, rfl, (by intro vs hv; obtain ⟨_, vs1, rfl, hv1⟩ := vlenS (n := 2) hv; obtain ⟨_, vs2, rfl, hv2⟩ := vlenS (n := 1) hv1; obtain ⟨_, vs3, rfl, hv3⟩ := vlenS (n := 0) hv2; obtain rfl := vlen0 hv3; rfl), (by decide), allCons (by first | exact .inl rfl | exact .inr ⟨rfl, fun _ => rfl⟩) <| allCons (by first | exact .inl rfl | exact .inr ⟨rfl, fun _ => rfl⟩) <| allCons (by first | exact .inl rfl | exact .inr ⟨rfl, fun _ => rfl⟩) <| allNil, rfl, rfl, rfl⟩ : Fn c 180 ⟨_, _, ⟨_, _, _, _, _, _, _⟩, .stmts (_ :: _), ⟨_, _, _, _, _⟩, _, _, _, _, _, _, _, _, _, _⟩ (_ :: _) ["name", "rows", "children"]) rfl fun L hL => ?_
  refine Ex_cons ?_
  refine Ex_Return ?_
  refine Ev_Tuple ?_
  refine Evs_cons ?_
  refine Ev_str ?_
  refine Evs_cons ?_
  refine Ev_Tuple ?_
  refine Evs_cons ?_
  refine Ev_loc ⟨rfl, rfl, rfl⟩ rfl rfl ?_
  refine Evs_cons ?_
  refine Ev_str ?_
  refine Evs_cons ?_
  refine Ev_loc ⟨rfl, rfl, rfl⟩ rfl rfl ?_
  refine Evs_nil ?_
  refine ⟨by simp, ?_⟩
  refine Evs_cons ?_
  refine Ev_str ?_
  refine Evs_cons ?_
  refine Ev_CallB ⟨rfl, rfl, rfl⟩ rfl (g_tuple hK) rfl rfl ?_
  refine Evs_cons ?_
  refine Ev_loc ⟨rfl, rfl, rfl⟩ rfl rfl ?_
  refine Evs_nil ?_
  refine Op_tupleL hr ?_
  refine Evs_cons ?_
  refine Ev_CallB ⟨rfl, rfl, rfl⟩ rfl (g_tuple hK) rfl rfl ?_
  refine Evs_cons ?_
  refine Ev_loc ⟨rfl, rfl, rfl⟩ rfl rfl ?_
  refine Evs_nil ?_
  refine Op_tupleL hc ?_
  refine Evs_nil ?_
  exact ⟨by simp, h⟩

theorem child_ {N : Nat} {name value : Str} {k : AV → AH → Prop} {hp : AH} (h : ∀ hp', Grow hp hp' → k (.tup (leafL (name, value))) hp') : Cal c (N + 2) (.ref 187) [.str name, .str value] k hp := by
  refine Cal_fn (⟨⟨_, _, _, by rw [hK]; k_is⟩, by rw [hK]; k_is, by exact rfl, rfl, rfl, rfl, (by intro vs hv; obtain ⟨_, vs1, rfl, hv1⟩ := vlenS (n := 1) hv; obtain ⟨_, vs2, rfl, hv2⟩ := vlenS (n := 0) hv1; obtain rfl := vlen0 hv2; rfl), (by decide), allCons (by first | exact .inl rfl | exact .inr ⟨rfl, fun _ => rfl⟩) <| allCons (by first | exact .inl rfl | exact .inr ⟨rfl, fun _ => rfl⟩) <| allNil, rfl, rfl, rfl⟩ : Fn c 187 ⟨_, _, ⟨_, _, _, _, _, _, _⟩, .stmts (_ :: _), ⟨_, _, _, _, _⟩, _, _, _, _, _, _, _, _, _, _⟩ (_ :: _) ["name", "value"]) rfl fun L hL => ?_
  refine Ex_cons ?_
  refine Ex_Return ?_
  refine Ev_CallF ⟨rfl, rfl, rfl⟩ rfl (g__law_element hK) (keep_180 hK) ?_
  refine Evs_cons ?_
  refine Ev_loc ⟨rfl, rfl, rfl⟩ rfl rfl ?_
  refine Evs_cons ?_
  refine Ev_List ?_
  refine Evs_cons ?_
  refine Ev_Tuple ?_
  refine Evs_cons ?_
  refine Ev_Tuple ?_
  refine Evs_cons ?_
  refine Ev_str ?_
  refine Evs_cons ?_
  refine Ev_str ?_
  refine Evs_nil ?_
  refine ⟨by simp, ?_⟩
  refine Evs_cons ?_
  refine Ev_str ?_
  refine Evs_cons ?_
  refine Ev_loc ⟨rfl, rfl, rfl⟩ rfl rfl ?_
  refine Evs_nil ?_
  refine ⟨by simp, ?_⟩
  refine Evs_nil ?_
  refine ⟨by simp, fun D hD => ?_⟩
  refine Evs_cons ?_
  refine Ev_List ?_
  refine Evs_nil ?_
  refine ⟨by simp, fun D2 hD2 => ?_⟩
  refine Evs_nil ?_
  refine element_ hK (rows := [leafRow value]) (upd_at upd_same hD2) upd_same ?_
  exact h _ (((Grow.refl hp).thenNew hD).thenNew hD2)
end
end Mu
end
noncomputable section
open PySem PySem.W PySem.Calls PyProof.Rows
set_option Elab.async false
set_option linter.unusedVariables false
set_option maxRecDepth 100000
set_option maxHeartbeats 4000000
namespace Mu
structure LS where
  found : List AV
  put : List AV
  gone : List AV
  place : Nat
  begin_ : Nat
def lchild (nm v : Str) : AV := .tup (leafL (nm, v))
/-- what a turn does to the lists -/
def lmid (path : List AV) (s : LS) (nm : Str) (v : Int) : LS :=
  if v = 1 then { s with gone := s.gone ++ [.tup [.str "delete", .tup (path ++ [.int s.place])]] }
  else if v = 2 then { s with put := s.put ++ [.tup [.str "insert", .tup (path ++ [.int s.begin_]), lchild nm "2"]] }
  else if v > 2 then { found := s.found ++ s.put ++ s.gone ++ [.tup [.str "pair", .tup (path ++ [.int s.place]), lchild nm "1", lchild nm (if v = 3 then "1" else "2")]], put := [], gone := [], place := s.place, begin_ := s.place + 1 }
  else s
def lstep (path : List AV) (s : LS) (nm : Str) (v : Int) : LS := { lmid path s nm v with place := (lmid path s nm v).place + (if v ∈ [(1 : Int), 3, 4] then 1 else 0) }
def lrun (path : List AV) (s : LS) : List (Str × Int) → LS
  | [] => s
  | p :: r => lrun path (lstep path s p.1 p.2) r
def LS.zero : LS := ⟨[], [], [], 0, 0⟩
def LS.all (s : LS) : List AV := s.found ++ s.put ++ s.gone
def lawTasks (path : List AV) (ps : List (Str × Int)) : List AV := (lrun path .zero ps).all
def zipped (x : Str) (sv : List Int) : List (Str × Int) := (List.range (min x.cps.size sv.length)).map fun i => (signAt x i, sv.getD i 0)
theorem lrun_app (path : List AV) : ∀ (l m : List (Str × Int)) (s : LS), lrun path s (l ++ m) = lrun path (lrun path s l) m
  | [], _, _ => rfl
  | p :: l, m, s => lrun_app path l m (lstep path s p.1 p.2)
theorem lmid_len (path : List AV) (s : LS) (nm : Str) (v : Int) : (lmid path s nm v).all.length ≤ s.all.length + 1 := by
  unfold lmid LS.all
  split
  · simp; omega
  · split
    · simp; omega
    · split
      · simp; omega
      · omega
theorem lstep_len (path : List AV) (s : LS) (nm : Str) (v : Int) : (lstep path s nm v).all.length ≤ s.all.length + 1 := lmid_len path s nm v
theorem lrun_len (path : List AV) : ∀ (l : List (Str × Int)) (s : LS), (lrun path s l).all.length ≤ s.all.length + l.length
  | [], s => Nat.le_refl _
  | p :: l, s => by
    have h1 := lrun_len path l (lstep path s p.1 p.2)
    have h2 := lstep_len path s p.1 p.2
    show (lrun path (lstep path s p.1 p.2) l).all.length ≤ _
    rw [List.length_cons]; omega
/-- the lists of the turn, in the heap -/
def LsIn (hp q : AH) (s : LS) (af ap ag : Addr) : Prop := And6 (Grow hp q) (And3 (q af = some (.list s.found)) (q ap = some (.list s.put)) (q ag = some (.list s.gone))) (And3 (hp af = none) (hp ap = none) (hp ag = none)) (af ≠ ap) (af ≠ ag) (ap ≠ ag)
theorem LsIn.new {hp q : AH} {s : LS} {af ap ag x : Addr} {o : AO} (h : LsIn hp q s af ap ag) (hx : q x = none) : LsIn hp (upd q x o) s af ap ag := by
  obtain ⟨h1, ⟨h2, h3, h4⟩, h5, h6, h7, h8⟩ := h
  exact ⟨h1.thenNew hx, ⟨upd_at h2 hx, upd_at h3 hx, upd_at h4 hx⟩, h5, h6, h7, h8⟩
theorem LsIn.grow {hp q q' : AH} {s : LS} {af ap ag : Addr} (h : LsIn hp q s af ap ag) (g : Grow q q') : LsIn hp q' s af ap ag := by
  obtain ⟨h1, ⟨h2, h3, h4⟩, h5, h6, h7, h8⟩ := h
  exact ⟨h1.trans g, ⟨g _ _ h2, g _ _ h3, g _ _ h4⟩, h5, h6, h7, h8⟩
def lmLoc (st : St) (path : List AV) (nm : Str) (v : Int) (s : LS) (af ap ag : Addr) : Prop := And8 (st.loc "path" = some (.tup path)) (st.loc "name" = some (.str nm)) (st.loc "state" = some (.int v)) (st.loc "found" = some (.ref af)) (st.loc "put" = some (.ref ap)) (st.loc "gone" = some (.ref ag)) (st.loc "place" = some (.int s.place)) (st.loc "begin" = some (.int s.begin_))

section
variable {c : Cx} {P : Params} (hK : c.K = KK P)
include hK

theorem tasks_ {N : Nat} {x : Str} {t : Addr} {sv : List Int} {path : List AV} {k : AV → AH → Prop} {hp : AH} (hx : ascii x = true) (ht : hp t = some (.list (sv.map .int))) (hz : sv.length ≤ 100) (lp : path.length ≤ 900)
    (h : ∀ r hp', Grow hp hp' → hp' r = some (.list (lawTasks path (zipped x sv))) → k (.ref r) hp') : Cal c (N + 3) (.ref 194) [.str x, .ref t, .tup path] k hp := by
  refine Cal_fn (⟨⟨_, _, _, by rw [hK]; k_is⟩, by rw [hK]; k_is, by exact rfl, rfl, rfl, rfl, (by intro vs hv; obtain ⟨_, vs1, rfl, hv1⟩ := vlenS (n := 2) hv; obtain ⟨_, vs2, rfl, hv2⟩ := vlenS (n := 1) hv1; obtain ⟨_, vs3, rfl, hv3⟩ := vlenS (n := 0) hv2; obtain rfl := vlen0 hv3; rfl), (by decide), allCons (by first | exact .inl rfl | exact .inr ⟨rfl, fun _ => rfl⟩) <| allCons (by first | exact .inl rfl | exact .inr ⟨rfl, fun _ => rfl⟩) <| allCons (by first | exact .inl rfl | exact .inr ⟨rfl, fun _ => rfl⟩) <| allNil, rfl, rfl, rfl⟩ : Fn c 194 ⟨_, _, ⟨_, _, _, _, _, _, _⟩, .stmts (_ :: _), ⟨_, _, _, _, _⟩, _, _, _, _, _, _, _, _, _, _⟩ (_ :: _) ["names", "states", "path"]) rfl fun L hL => ?_
  refine Ex_cons ?_
  refine Ex_AssignTuple ?_
  refine Ev_Tuple ?_
  refine Evs_cons ?_
  refine Ev_List ?_
  refine Evs_nil ?_
  refine ⟨by simp, fun A1 hA1 => ?_⟩
  refine Evs_cons ?_
  refine Ev_List ?_
  refine Evs_nil ?_
  refine ⟨by simp, fun A2 hA2 => ?_⟩
  refine Evs_cons ?_
  refine Ev_List ?_
  refine Evs_nil ?_
  refine ⟨by simp, fun A3 hA3 => ?_⟩
  refine Evs_cons ?_
  refine Ev_int ?_
  refine Evs_cons ?_
  refine Ev_int ?_
  refine Evs_nil ?_
  refine ⟨by simp, ?_⟩
  refine Un1_Tuple ?_
  refine UnL_cons ?_
  refine Un1_Name ?_
  refine Un_loc ⟨rfl, rfl, rfl⟩ rfl ?_
  refine UnL_cons ?_
  refine Un1_Name ?_
  refine Un_loc ⟨rfl, rfl, rfl⟩ rfl ?_
  refine UnL_cons ?_
  refine Un1_Name ?_
  refine Un_loc ⟨rfl, rfl, rfl⟩ rfl ?_
  refine UnL_cons ?_
  refine Un1_Name ?_
  refine Un_loc ⟨rfl, rfl, rfl⟩ rfl ?_
  refine UnL_cons ?_
  refine Un1_Name ?_
  refine Un_loc ⟨rfl, rfl, rfl⟩ rfl ?_
  refine UnL_nil ?_
  have A1n : hp A1 = none := hA1
  have n12 : A1 ≠ A2 := ne_at upd_same hA2
  have A2n : hp A2 = none := (Grow.new A1n).gone hA2
  have g12 : Grow hp (upd (upd hp A1 (.list [])) A2 (.list [])) := (Grow.new A1n).thenNew hA2
  have n13 : A1 ≠ A3 := ne_at (upd_at upd_same hA2) hA3
  have n23 : A2 ≠ A3 := ne_at upd_same hA3
  have A3n : hp A3 = none := g12.gone hA3
  have I0 : LsIn hp (upd (upd (upd hp A1 (.list [])) A2 (.list [])) A3 (.list [])) .zero A1 A2 A3 := ⟨g12.thenNew hA3, ⟨upd_at (upd_at upd_same hA2) hA3, upd_at upd_same hA3, upd_same⟩, ⟨A1n, A2n, A3n⟩, n12, n13, n23⟩
  refine Ex_cons (Ex_For (Src_zip ⟨rfl, rfl, rfl⟩ rfl (g_zip hK) (Ev_loc ⟨rfl, rfl, rfl⟩ rfl rfl (Ev_loc ⟨rfl, rfl, rfl⟩ rfl rfl ⟨x, t, _, rfl, hx, rfl, I0.1 _ _ ht, fun i st => And4 (∃ af ap ag, And4 (LsIn hp st.hp (lrun path .zero ((zipped x sv).take i)) af ap ag) (st.loc "found" = some (.ref af)) (st.loc "put" = some (.ref ap)) (st.loc "gone" = some (.ref ag))) (st.loc "path" = some (.tup path)) (st.loc "place" = some (.int (lrun path .zero ((zipped x sv).take i)).place)) (st.loc "begin" = some (.int (lrun path .zero ((zipped x sv).take i)).begin_)),
    ⟨⟨A1, A2, A3, I0, rfl, rfl, rfl⟩, rfl, rfl, rfl⟩, fun i st hi ⟨⟨af, ap, ag, I, l1, l2, l3⟩, l4, l5, l6⟩ => ⟨I.1 _ _ ht, ?_⟩, fun st ⟨⟨af, ap, ag, I, l1, l2, l3⟩, l4, l5, l6⟩ => ⟨I.1 _ _ ht, ?_⟩⟩))))
  · rw [List.length_map] at hi
    have lz : (zipped x sv).length = min x.cps.size sv.length := by unfold zipped; simp
    have hi' : i < (zipped x sv).length := by rw [lz]; exact hi
    have hsv : i < sv.length := by omega
    have ei : AV.tup [.str (signAt x i), (sv.map AV.int).getD i .none] = .tup [.str (zipped x sv)[i].1, .int (zipped x sv)[i].2] := by
      have e2 : (zipped x sv)[i] = (signAt x i, sv.getD i 0) := by simp [zipped]
      rw [e2, List.getD_eq_getElem?_getD, List.getElem?_map, List.getElem?_eq_getElem hsv, List.getD_eq_getElem?_getD, List.getElem?_eq_getElem hsv]; rfl
    have et : lrun path .zero ((zipped x sv).take (i + 1)) = lstep path (lrun path .zero ((zipped x sv).take i)) (zipped x sv)[i].1 (zipped x sv)[i].2 := by
      rw [List.take_succ_eq_append_getElem hi', lrun_app]; rfl
    have lall : (lrun path .zero ((zipped x sv).take i)).all.length ≤ 100 := by
      refine Nat.le_trans (lrun_len path _ _) ?_
      rw [List.length_take]
      show 0 + _ ≤ 100
      omega
    refine Un1_of ei ?_
    refine Un1_Tuple ?_
    refine UnL_cons ?_
    refine Un1_Name ?_
    refine Un_loc ⟨rfl, rfl, rfl⟩ rfl ?_
    refine UnL_cons ?_
    refine Un1_Name ?_
    refine Un_loc ⟨rfl, rfl, rfl⟩ rfl ?_
    refine UnL_nil ?_
    obtain ⟨s, hs⟩ : ∃ s, lrun path .zero ((zipped x sv).take i) = s := ⟨_, rfl⟩
    rw [hs] at I l5 l6 et lall
    obtain ⟨nm, hnm⟩ : ∃ nm, (zipped x sv)[i].1 = nm := ⟨_, rfl⟩
    obtain ⟨v, hv⟩ : ∃ v, (zipped x sv)[i].2 = v := ⟨_, rfl⟩
    rw [hnm, hv] at et ⊢
    clear hs hnm hv ei
    have lens : And4 (s.found.length ≤ 100) (s.put.length ≤ 100) (s.gone.length ≤ 100) (s.found.length + s.put.length + s.gone.length ≤ 100) := by
      unfold LS.all at lall
      simp only [List.length_append] at lall
      exact ⟨by omega, by omega, by omega, by omega⟩
    obtain ⟨z1, z2, z3, z4⟩ := lens
    obtain ⟨I1, ⟨I2, I3, I4⟩, ⟨I5, I6, I7⟩, I8, I9, I10⟩ := id I
    refine Ex_cons (Ex.mono (k := fun fl st' => fl = .next ∧ ∃ af ap ag, LsIn hp st'.hp (lmid path s nm v) af ap ag ∧ lmLoc st' path nm v (lmid path s nm v) af ap ag) ?_ ?_)
    · refine Ex_If (Tst_Compare (Ev_loc ⟨rfl, rfl, rfl⟩ rfl rfl (Ev_int (Op_eq rfl rfl ⟨_, rfl, fun hb => ?_, fun hb => ?_⟩))))
      · have hv : v = 1 := by simpa [aeq] using hb
        have em : lmid path s nm v = { s with gone := s.gone ++ [.tup [.str "delete", .tup (path ++ [.int s.place])]] } := if_pos hv
        rw [em]
        refine Ex_cons (Ex_Expr (Ev_Meth (Ev_loc ⟨rfl, rfl, rfl⟩ rfl l3 ⟨_, Mth_append I4, fun h _ => plainF_keeps rfl h, ?_⟩)))
        refine Evs_cons ?_
        refine Ev_Tuple ?_
        refine Evs_cons ?_
        refine Ev_str ?_
        refine Evs_cons ?_
        refine Ev_BinOp ?_
        refine Ev_loc ⟨rfl, rfl, rfl⟩ rfl l4 ?_
        refine Ev_Tuple ?_
        refine Evs_cons ?_
        refine Ev_loc ⟨rfl, rfl, rfl⟩ rfl l5 ?_
        refine Evs_nil ?_
        refine ⟨by simp, Op_addT (by simp; omega) ?_⟩
        refine Evs_nil ?_
        refine ⟨by simp, Evs_nil (Op_append I4 (by omega) ⟨rfl, Ex_nil ⟨rfl, af, ap, ag, ⟨I1.thenUpd I7, ⟨upd_off I2 I9, upd_off I3 I10, upd_same⟩, ⟨I5, I6, I7⟩, I8, I9, I10⟩, l4, rfl, rfl, l1, l2, l3, l5, l6⟩⟩)⟩
      · have hv : v ≠ 1 := by
          intro q; rw [q] at hb; simp [aeq] at hb
        refine Ex_cons (Ex_If (Tst_Compare (Ev_loc ⟨rfl, rfl, rfl⟩ rfl rfl (Ev_int (Op_eq rfl rfl ⟨_, rfl, fun hb => ?_, fun hb => ?_⟩)))))
        · have hv2 : v = 2 := by simpa [aeq] using hb
          have em : lmid path s nm v = { s with put := s.put ++ [.tup [.str "insert", .tup (path ++ [.int s.begin_]), lchild nm "2"]] } := by unfold lmid; rw [if_neg hv, if_pos hv2]
          rw [em]
          refine Ex_cons (Ex_Expr (Ev_Meth (Ev_loc ⟨rfl, rfl, rfl⟩ rfl l2 ⟨_, Mth_append I3, fun h _ => plainF_keeps rfl h, ?_⟩)))
          refine Evs_cons ?_
          refine Ev_Tuple ?_
          refine Evs_cons ?_
          refine Ev_str ?_
          refine Evs_cons ?_
          refine Ev_BinOp ?_
          refine Ev_loc ⟨rfl, rfl, rfl⟩ rfl l4 ?_
          refine Ev_Tuple ?_
          refine Evs_cons ?_
          refine Ev_loc ⟨rfl, rfl, rfl⟩ rfl l6 ?_
          refine Evs_nil ?_
          refine ⟨by simp, Op_addT (by simp; omega) ?_⟩
          refine Evs_cons ?_
          refine Ev_CallF ⟨rfl, rfl, rfl⟩ rfl (g__law_child hK) (keep_187 hK) ?_
          refine Evs_cons ?_
          refine Ev_loc ⟨rfl, rfl, rfl⟩ rfl rfl ?_
          refine Evs_cons ?_
          refine Ev_str ?_
          refine Evs_nil ?_
          refine child_ hK fun hp1 g1 => ?_
          refine Evs_nil ?_
          refine ⟨by simp, Evs_nil (Op_append (g1 _ _ I3) (by omega) ⟨rfl, Ex_nil (Ex_nil ⟨rfl, af, ap, ag, ⟨(I1.trans g1).thenUpd I6, ⟨upd_off (g1 _ _ I2) I8, upd_same, upd_off (g1 _ _ I4) I10.symm⟩, ⟨I5, I6, I7⟩, I8, I9, I10⟩, l4, rfl, rfl, l1, l2, l3, l5, l6⟩)⟩)⟩
        · have hv2 : v ≠ 2 := by
            intro q; rw [q] at hb; simp [aeq] at hb
          refine Ex_cons (Ex_If (Tst_Compare (Ev_loc ⟨rfl, rfl, rfl⟩ rfl rfl (Ev_int (Op_gt ⟨_, rfl, fun hb => ?_, fun hb => ?_⟩)))))
          · have hv3 : v > 2 := of_decide_eq_true hb
            have em : lmid path s nm v = { found := s.found ++ s.put ++ s.gone ++ [.tup [.str "pair", .tup (path ++ [.int s.place]), lchild nm "1", lchild nm (if v = 3 then "1" else "2")]], put := [], gone := [], place := s.place, begin_ := s.place + 1 } := by unfold lmid; rw [if_neg hv, if_neg hv2, if_pos hv3]
            rw [em]
            refine Ex_cons ?_
            refine Ex_Assign ?_
            refine Ev_Tuple ?_
            refine Evs_cons ?_
            refine Ev_CallF ⟨rfl, rfl, rfl⟩ rfl (g__law_child hK) (keep_187 hK) ?_
            refine Evs_cons ?_
            refine Ev_loc ⟨rfl, rfl, rfl⟩ rfl rfl ?_
            refine Evs_cons ?_
            refine Ev_str ?_
            refine Evs_nil ?_
            refine child_ hK fun hp1 g1 => ?_
            refine Evs_cons ?_
            refine Ev_CallF ⟨rfl, rfl, rfl⟩ rfl (g__law_child hK) (keep_187 hK) ?_
            refine Evs_cons ?_
            refine Ev_loc ⟨rfl, rfl, rfl⟩ rfl rfl ?_
            refine Evs_cons ?_
            refine Ev.mono (k := fun a st' => a = .str (if v = 3 then "1" else "2") ∧ st' = ⟨((st.set "name" (.str nm)).set "state" (.int v)).loc, hp1⟩) ?_ ?_
            · refine Ev_IfExp ?_
              refine Tst_Compare ?_
              refine Ev_loc ⟨rfl, rfl, rfl⟩ rfl rfl ?_
              refine Ev_int ?_
              refine Op_eq rfl rfl ⟨_, rfl, fun hb => ?_, fun hb => ?_⟩
              · have h3 : v = 3 := by simpa [aeq] using hb
                exact Ev_str ⟨by rw [if_pos h3], rfl⟩
              · have h3 : v ≠ 3 := by intro q; rw [q] at hb; simp [aeq] at hb
                exact Ev_str ⟨by rw [if_neg h3], rfl⟩
            rintro _ _ ⟨rfl, rfl⟩
            refine Evs_nil ?_
            refine child_ hK fun hp2 g2 => ?_
            refine Evs_nil ?_
            refine ⟨by simp, ?_⟩
            refine Un_loc ⟨rfl, rfl, rfl⟩ rfl ?_
            have J := (I.grow g1).grow g2
            obtain ⟨J1, ⟨J2, J3, J4⟩, _⟩ := id J
            refine Ex_cons ?_
            refine Ex_Assign ?_
            refine Ev_BinOp ?_
            refine Ev_BinOp ?_
            refine Ev_BinOp ?_
            refine Ev_loc ⟨rfl, rfl, rfl⟩ rfl l1 ?_
            refine Ev_loc ⟨rfl, rfl, rfl⟩ rfl l2 ?_
            refine Op_addL J2 J3 (by omega) fun B1 hB1 => ?_
            have J4' := upd_at (o' := .list (s.found ++ s.put)) J4 hB1
            refine Ev_loc ⟨rfl, rfl, rfl⟩ rfl l3 ?_
            refine Op_addL upd_same J4' (by rw [List.length_append]; omega) fun B2 hB2 => ?_
            refine Ev_List ?_
            refine Evs_cons ?_
            refine Ev_BinOp ?_
            refine Ev_Tuple ?_
            refine Evs_cons ?_
            refine Ev_str ?_
            refine Evs_cons ?_
            refine Ev_BinOp ?_
            refine Ev_loc ⟨rfl, rfl, rfl⟩ rfl l4 ?_
            refine Ev_Tuple ?_
            refine Evs_cons ?_
            refine Ev_loc ⟨rfl, rfl, rfl⟩ rfl l5 ?_
            refine Evs_nil ?_
            refine ⟨by simp, Op_addT (by simp; omega) ?_⟩
            refine Evs_nil ?_
            refine ⟨by simp, ?_⟩
            refine Ev_loc ⟨rfl, rfl, rfl⟩ rfl rfl ?_
            refine Op_addT (by simp) ?_
            refine Evs_nil ?_
            refine ⟨by simp, fun B3 hB3 => ?_⟩
            refine Op_addL (upd_at upd_same hB3) upd_same (by simp only [List.length_append, List.length_cons, List.length_nil]; omega) fun B4 hB4 => ?_
            refine Un_loc ⟨rfl, rfl, rfl⟩ rfl ?_
            have K1 := (((J.new (o := .list (s.found ++ s.put)) hB1).new (o := .list (s.found ++ s.put ++ s.gone)) hB2).new hB3 (o := .list [.tup ([AV.str "pair", .tup (path ++ [AV.int (s.place : Int)])] ++ [lchild nm "1", lchild nm (if v = 3 then "1" else "2")])])).new hB4 (o := .list (s.found ++ s.put ++ s.gone ++ [.tup ([AV.str "pair", .tup (path ++ [AV.int (s.place : Int)])] ++ [lchild nm "1", lchild nm (if v = 3 then "1" else "2")])]))
            have B4n := ((((J.1.thenNew (o := .list (s.found ++ s.put)) hB1).thenNew (o := .list (s.found ++ s.put ++ s.gone)) hB2).thenNew (o := .list [.tup ([AV.str "pair", .tup (path ++ [AV.int (s.place : Int)])] ++ [lchild nm "1", lchild nm (if v = 3 then "1" else "2")])]) hB3)).gone hB4
            refine Ex_cons ?_
            refine Ex_AssignSwap ?_
            refine Ev_Tuple ?_
            refine Evs_cons ?_
            refine Ev_List ?_
            refine Evs_nil ?_
            refine ⟨by simp, fun C1 hC1 => ?_⟩
            refine Evs_cons ?_
            refine Ev_List ?_
            refine Evs_nil ?_
            refine ⟨by simp, fun C2 hC2 => ?_⟩
            refine Evs_cons ?_
            refine Ev_BinOp ?_
            refine Ev_loc ⟨rfl, rfl, rfl⟩ rfl l5 ?_
            refine Ev_int ?_
            refine Op_add ?_
            refine Evs_nil ?_
            refine ⟨by simp, _, rfl, rfl, ?_⟩
            refine UnL_cons ?_
            refine Un1_bind ?_
            refine Un_loc ⟨rfl, rfl, rfl⟩ rfl ?_
            refine UnL_cons ?_
            refine Un1_bind ?_
            refine Un_loc ⟨rfl, rfl, rfl⟩ rfl ?_
            refine UnL_cons ?_
            refine Un1_bind ?_
            refine Un_loc ⟨rfl, rfl, rfl⟩ rfl ?_
            refine UnL_nil ?_
            have G4 := K1.1
            have C1n := G4.gone hC1
            have G5 := G4.thenNew (o := .list []) hC1
            have C2n := G5.gone hC2
            have q4 : _ = some (AO.list (s.found ++ s.put ++ s.gone ++ [.tup ([AV.str "pair", .tup (path ++ [AV.int (s.place : Int)])] ++ [lchild nm "1", lchild nm (if v = 3 then "1" else "2")])])) := upd_at (o' := .list []) (upd_at (o' := .list []) (upd_same (a := B4)) hC1) hC2
            refine Ex_nil (Ex_nil (Ex_nil ⟨rfl, B4, C1, C2, ⟨G5.thenNew hC2, ⟨q4, upd_at upd_same hC2, upd_same⟩, ⟨B4n, C1n, C2n⟩, ne_at upd_same hC1, ne_at (upd_at upd_same hC1) hC2, ne_at upd_same hC2⟩, l4, rfl, rfl, rfl, rfl, rfl, l5, rfl⟩))
          · have hv3 : ¬ v > 2 := of_decide_eq_false hb
            have em : lmid path s nm v = s := by unfold lmid; rw [if_neg hv, if_neg hv2, if_neg hv3]
            rw [em]
            exact Ex_nil (Ex_nil (Ex_nil ⟨rfl, af, ap, ag, I, l4, rfl, rfl, l1, l2, l3, l5, l6⟩))
    rintro fl st' ⟨rfl, af', ap', ag', I', m1, m2, m3, m4, m5, m6, m7, m8⟩
    refine Ex_cons ?_
    refine Ex_Assign ?_
    refine Ev_BinOp ?_
    refine Ev_loc ⟨rfl, rfl, rfl⟩ rfl m7 ?_
    refine Ev_CallB ⟨rfl, rfl, rfl⟩ rfl (g_int hK) rfl rfl ?_
    refine Evs_cons ?_
    refine Ev_Compare ?_
    refine Ev_loc ⟨rfl, rfl, rfl⟩ rfl m3 ?_
    refine Ev_List ?_
    refine Evs_cons ?_
    refine Ev_int ?_
    refine Evs_cons ?_
    refine Ev_int ?_
    refine Evs_cons ?_
    refine Ev_int ?_
    refine Evs_nil ?_
    refine ⟨by simp, fun E hE => ?_⟩
    refine Op_inInts (is := [1, 3, 4]) upd_same ?_
    refine Evs_nil ?_
    refine Op_intB ?_
    refine Op_add ?_
    refine Un_loc ⟨rfl, rfl, rfl⟩ rfl ?_
    refine Ex_nil ?_
    refine ⟨⟨af', ap', ag', ?_, m4, m5, m6⟩, m1, ?_, ?_⟩
    · rw [et]
      exact I'.new hE
    · rw [et]
      show some (AV.int _) = some (AV.int _)
      congr 2
      unfold lstep
      by_cases q : v ∈ [(1 : Int), 3, 4]
      · rw [if_pos (decide_eq_true q), if_pos q]; rfl
      · rw [if_neg (by rw [decide_eq_false q]; simp), if_neg q]; simp
    · rw [et]
      exact m8
  · have ef : lrun path .zero ((zipped x sv).take (min x.cps.size (sv.map AV.int).length)) = lrun path .zero (zipped x sv) := by
      rw [List.take_of_length_le (by unfold zipped; simp)]
    rw [ef] at I l5 l6
    have lall : (lrun path .zero (zipped x sv)).all.length ≤ 100 := by
      refine Nat.le_trans (lrun_len path _ _) ?_
      show 0 + (zipped x sv).length ≤ 100
      unfold zipped
      rw [List.length_map, List.length_range]
      omega
    obtain ⟨I1, ⟨I2, I3, I4⟩, _⟩ := id I
    unfold LS.all at lall
    simp only [List.length_append] at lall
    refine Ex_cons ?_
    refine Ex_Return ?_
    refine Ev_BinOp ?_
    refine Ev_BinOp ?_
    refine Ev_loc ⟨rfl, rfl, rfl⟩ rfl l1 ?_
    refine Ev_loc ⟨rfl, rfl, rfl⟩ rfl l2 ?_
    refine Op_addL I2 I3 (by omega) fun B1 hB1 => ?_
    refine Ev_loc ⟨rfl, rfl, rfl⟩ rfl l3 ?_
    refine Op_addL upd_same (upd_at I4 hB1) (by rw [List.length_append]; omega) fun B2 hB2 => ?_
    exact h B2 _ ((I1.thenNew hB1).thenNew hB2) upd_same
end
end Mu
end
noncomputable section
open PySem PySem.W PySem.Calls PyProof.Rows
set_option Elab.async false
set_option linter.unusedVariables false
set_option maxRecDepth 100000
set_option maxHeartbeats 4000000
namespace Mu
def oursL (ps : List (Str × Int)) : List Lf := (ps.filter fun p => decide (p.2 ∈ [(1 : Int), 3, 4])).map fun p => (p.1, "1")
def theirsL (ps : List (Str × Int)) : List Lf := (ps.filter fun p => decide (1 < p.2)).map fun p => (p.1, if p.2 = 3 then "1" else "2")
theorem oursL_snoc (l : List (Str × Int)) (p : Str × Int) : kidsL (oursL (l ++ [p])) = kidsL (oursL l) ++ (if p.2 ∈ [(1 : Int), 3, 4] then [.tup (leafL (p.1, "1"))] else []) := by
  unfold kidsL oursL
  rw [List.filter_append, List.map_append, List.map_append]
  by_cases h : p.2 ∈ [(1 : Int), 3, 4]
  · rw [if_pos h, List.filter_cons, if_pos (decide_eq_true h)]; rfl
  · rw [if_neg h, List.filter_cons, if_neg (by rw [decide_eq_false h]; exact Bool.false_ne_true)]; rfl
theorem theirsL_snoc (l : List (Str × Int)) (p : Str × Int) : kidsL (theirsL (l ++ [p])) = kidsL (theirsL l) ++ (if 1 < p.2 then [.tup (leafL (p.1, if p.2 = 3 then "1" else "2"))] else []) := by
  unfold kidsL theirsL
  rw [List.filter_append, List.map_append, List.map_append]
  by_cases h : 1 < p.2
  · rw [if_pos h, List.filter_cons, if_pos (decide_eq_true h)]; rfl
  · rw [if_neg h, List.filter_cons, if_neg (by rw [decide_eq_false h]; exact Bool.false_ne_true)]; rfl
def toldOf (path : List AV) (l1 l2 : List Lf) : Sp → AV
  | .keep a b => .tup ([.str "pair", .tup (path ++ [.int a])] ++ [.tup (formAt l1 a), .tup (formAt l2 b)])
  | .out a => .tup [.str "delete", .tup (path ++ [.int a])]
  | .ins a b => .tup [.str "insert", .tup (path ++ [.int a]), .tup (formAt l2 b)]
theorem zipped_len (x : Str) (sv : List Int) : (zipped x sv).length = min x.cps.size sv.length := by unfold zipped; simp
theorem zipped_item {x : Str} {sv : List Int} {i : Nat} (h : i < (zipped x sv).length) : AV.tup [.str (signAt x i), (sv.map AV.int).getD i .none] = .tup [.str (zipped x sv)[i].1, .int (zipped x sv)[i].2] := by
  have h' := h
  rw [zipped_len] at h'
  have hsv : i < sv.length := by omega
  have e2 : (zipped x sv)[i] = (signAt x i, sv.getD i 0) := by simp [zipped]
  rw [e2, List.getD_eq_getElem?_getD, List.getElem?_map, List.getElem?_eq_getElem hsv, List.getD_eq_getElem?_getD, List.getElem?_eq_getElem hsv]; rfl
theorem sign_ok {x : Str} (hx : ascii x = true) (i : Nat) : PyData.strOk (signAt x i) = true := by
  unfold PyData.strOk signAt
  have : x.cps.getD i 0 < 1114112 := by
    rw [Array.getD_eq_getD_getElem?]
    cases q : x.cps[i]? with
    | none => decide
    | some v =>
      have := Array.all_eq_true.mp hx i (Array.getElem?_eq_some_iff.mp q).1
      rw [(Array.getElem?_eq_some_iff.mp q).2] at this
      have := of_decide_eq_true this
      show v < 1114112
      omega
  simpa using this
theorem zipped_ok {x : Str} {sv : List Int} (hx : ascii x = true) {p : Str × Int} (h : p ∈ zipped x sv) : PyData.strOk p.1 = true := by
  obtain ⟨i, _, rfl⟩ := List.mem_map.mp h
  exact sign_ok hx i
theorem ours_ok {x : Str} {sv : List Int} (hx : ascii x = true) : lsOk (oursL (zipped x sv)) = true := List.all_eq_true.mpr fun a ha => by
  obtain ⟨p, hp, rfl⟩ := List.mem_map.mp ha
  have e1 : PyData.strOk "1" = true := by decide +kernel
  unfold lfOk
  simp only [zipped_ok hx (List.mem_filter.mp hp).1, e1, Bool.and_self]
theorem theirs_ok {x : Str} {sv : List Int} (hx : ascii x = true) : lsOk (theirsL (zipped x sv)) = true := List.all_eq_true.mpr fun a ha => by
  obtain ⟨p, hp, rfl⟩ := List.mem_map.mp ha
  have e1 : PyData.strOk "1" = true := by decide +kernel
  have e2 : PyData.strOk "2" = true := by decide +kernel
  unfold lfOk
  simp only [zipped_ok hx (List.mem_filter.mp hp).1, Bool.true_and]
  split
  · exact e1
  · exact e2
theorem ours_len (ps : List (Str × Int)) : (oursL ps).length ≤ ps.length := by unfold oursL; rw [List.length_map]; exact List.length_filter_le _ _
theorem theirs_len (ps : List (Str × Int)) : (theirsL ps).length ≤ ps.length := by unfold theirsL; rw [List.length_map]; exact List.length_filter_le _ _
theorem chAt_small {ls : List Lf} {i : Nat} (h : i < ls.length) : formAt ls i = leafL ls[i] := by
  unfold formAt nameAt rowsAt chAt
  rw [List.getElem?_eq_getElem h]; rfl
theorem ints_ok (pi : List Int) (n : Nat) : (pi.map AV.int).all (dOk n) = true := List.all_eq_true.mpr fun a ha => by
  obtain ⟨i, _, rfl⟩ := List.mem_map.mp ha
  cases n <;> rfl
theorem told_ok {pi : List Int} {l1 l2 : List Lf} (o1 : lsOk l1 = true) (o2 : lsOk l2 = true) {s : Sp} (h : spIn l1.length l2.length s) : dOk 9 (toldOf (pi.map .int) l1 l2 s) = true := by
  have e1 : PyData.strOk "pair" = true := by decide +kernel
  have e2 : PyData.strOk "delete" = true := by decide +kernel
  have e3 : PyData.strOk "insert" = true := by decide +kernel
  have lf : ∀ (ls : List Lf) (i : Nat), lsOk ls = true → i < ls.length → dOk 8 (.tup (formAt ls i)) = true := fun ls i o hi => by
    rw [chAt_small hi]; exact leaf_ok (List.all_eq_true.mp o _ (List.getElem_mem hi)) 4
  have pt : ∀ a : Nat, dOk 8 (.tup (pi.map AV.int ++ [.int a])) = true := fun a => by
    show (pi.map AV.int ++ [AV.int a]).all (dOk 7) = true
    rw [List.all_append, ints_ok]; rfl
  cases s with
  | keep a b =>
    show ([AV.str "pair", AV.tup (pi.map AV.int ++ [AV.int a])] ++ [AV.tup (formAt l1 a), AV.tup (formAt l2 b)] : List AV).all (dOk 8) = true
    have q1 : dOk 8 (.str "pair") = true := e1
    simp only [List.cons_append, List.nil_append, List.all_cons, List.all_nil, q1, pt, lf l1 a o1 h.1, lf l2 b o2 h.2, Bool.and_self]
  | out a =>
    show ([AV.str "delete", .tup (pi.map AV.int ++ [.int a])]).all (dOk 8) = true
    have q1 : dOk 8 (.str "delete") = true := e2
    simp only [List.all_cons, List.all_nil, q1, pt, Bool.and_self]
  | ins a b =>
    show ([AV.str "insert", .tup (pi.map AV.int ++ [.int a]), .tup (formAt l2 b)]).all (dOk 8) = true
    have q1 : dOk 8 (.str "insert") = true := e3
    simp only [List.all_cons, List.all_nil, q1, pt, lf l2 b o2 h.2, Bool.and_self]
mutual
theorem aeq_self : ∀ {n : Nat} {a : AV}, dOk n a = true → aeq a a = true
  | _, .none, _ => by simp [aeq]
  | _, .int i, _ => by simp [aeq]
  | _, .str x, _ => by simp [aeq]
  | n + 1, .tup l, h => by
    unfold aeq
    exact aeqs_self (n := n) fun a ha => List.all_eq_true.mp h a ha
  | 0, .tup l, h => by cases h
  | n, .bool b, h => by cases n <;> cases h
  | n, .ref a, h => by cases n <;> cases h
theorem aeqs_self : ∀ {n : Nat} {l : List AV}, (∀ a ∈ l, dOk n a = true) → aeqs l l = true
  | _, [], _ => by simp [aeqs]
  | n, a :: l, h => by
    unfold aeqs
    rw [aeq_self (h a (.head _)), aeqs_self (n := n) fun b hb => h b (.tail _ hb)]; rfl
end

section
variable {c : Cx} {P : Params} (hK : c.K = KK P)
include hK

theorem right_ {N : Nat} {x : Str} {t : Addr} {sv : List Int} {pi : List Int} {k : AV → AH → Prop} {hp : AH} (hx : ascii x = true) (ht : hp t = some (.list (sv.map .int))) (hz : sv.length ≤ 100) (lp : pi.length ≤ 800)
    (law : (walk (oursL (zipped x sv)) (theirsL (zipped x sv))).map (toldOf (pi.map .int) (oursL (zipped x sv)) (theirsL (zipped x sv))) = lawTasks (pi.map .int) (zipped x sv))
    (h : ∀ hp', Grow hp hp' → k (.bool true) hp') : Cal c (N + 7) (.ref 199) [.str x, .ref t, .tup (pi.map .int)] k hp := by
  refine Cal_fn (⟨⟨_, _, _, by rw [hK]; k_is⟩, by rw [hK]; k_is, by exact rfl, rfl, rfl, rfl, (by intro vs hv; obtain ⟨_, vs1, rfl, hv1⟩ := vlenS (n := 2) hv; obtain ⟨_, vs2, rfl, hv2⟩ := vlenS (n := 1) hv1; obtain ⟨_, vs3, rfl, hv3⟩ := vlenS (n := 0) hv2; obtain rfl := vlen0 hv3; rfl), (by decide), allCons (by first | exact .inl rfl | exact .inr ⟨rfl, fun _ => rfl⟩) <| allCons (by first | exact .inl rfl | exact .inr ⟨rfl, fun _ => rfl⟩) <| allCons (by first | exact .inl rfl | exact .inr ⟨rfl, fun _ => rfl⟩) <| allNil, rfl, rfl, rfl⟩ : Fn c 199 ⟨_, _, ⟨_, _, _, _, _, _, _⟩, .stmts (_ :: _), ⟨_, _, _, _, _⟩, _, _, _, _, _, _, _, _, _, _⟩ (_ :: _) ["names", "states", "path"]) rfl fun L hL => ?_
  have lz : (zipped x sv).length ≤ 100 := by rw [zipped_len]; omega
  -- ours
  refine Ex_cons (Ex_AssignComp (xs := []) ⟨rfl, rfl, rfl⟩ (Src_zip ⟨rfl, rfl, rfl⟩ rfl (g_zip hK) (Ev_loc ⟨rfl, rfl, rfl⟩ rfl rfl (Ev_loc ⟨rfl, rfl, rfl⟩ rfl rfl ⟨x, t, _, rfl, hx, rfl, ht, by rw [List.length_map]; omega, fun C hC hCL => ⟨fun i acc st => Grow hp st.hp ∧ acc = kidsL (oursL ((zipped x sv).take i)), ⟨.refl _, rfl⟩, fun i acc st hi ⟨g, e⟩ => ⟨g _ _ ht, ?_⟩, fun acc st ⟨g, e⟩ => ⟨g _ _ ht, fun D1 hD1 => ?_⟩⟩⟩))))
  · have hi : i < (zipped x sv).length := by rw [List.length_map] at hi; rw [zipped_len]; exact hi
    refine Un1_of (zipped_item hi) ?_
    refine Un1_Tuple ?_
    refine UnL_cons ?_
    refine Un1_Name ?_
    refine Un_loc ⟨rfl, rfl, rfl⟩ rfl ?_
    refine UnL_cons ?_
    refine Un1_Name ?_
    refine Un_loc ⟨rfl, rfl, rfl⟩ rfl ?_
    refine UnL_nil ?_
    have et := (congrArg (fun l => kidsL (oursL l)) (List.take_succ_eq_append_getElem hi)).trans (oursL_snoc _ _)
    refine Tst_Compare (Ev_loc ⟨rfl, rfl, rfl⟩ rfl rfl ?_)
    refine Ev_List ?_
    refine Evs_cons ?_
    refine Ev_int ?_
    refine Evs_cons ?_
    refine Ev_int ?_
    refine Evs_cons ?_
    refine Ev_int ?_
    refine Evs_nil ?_
    refine ⟨by simp, fun E hE => ?_⟩
    refine Op_inInts (is := [1, 3, 4]) upd_same ?_
    refine ⟨_, rfl, fun hb => ?_, fun hb => ?_⟩
    · refine Ev_CallF ⟨rfl, rfl, rfl⟩ rfl (g__law_child hK) (keep_187 hK) ?_
      refine Evs_cons ?_
      refine Ev_loc ⟨rfl, rfl, rfl⟩ rfl rfl ?_
      refine Evs_cons ?_
      refine Ev_str ?_
      refine Evs_nil ?_
      refine child_ hK fun hp1 g1 => ?_
      refine ⟨(g.thenNew hE).trans g1, ?_⟩
      rw [if_pos (of_decide_eq_true hb), ← e] at et
      exact et.symm
    · refine ⟨g.thenNew hE, ?_⟩
      rw [if_neg (of_decide_eq_false hb), ← e, List.append_nil] at et
      exact et.symm
  have ef : (zipped x sv).take (min x.cps.size (sv.map AV.int).length) = zipped x sv := List.take_of_length_le (by rw [zipped_len, List.length_map]; exact Nat.le_refl _)
  rw [ef] at e
  have D1n := g.gone hD1
  obtain ⟨hp1, e1⟩ : ∃ q, upd st.hp D1 (.list acc) = q := ⟨_, rfl⟩
  have g1 : Grow hp hp1 := by rw [← e1]; exact g.thenNew hD1
  have c1 : hp1 D1 = some (.list (kidsL (oursL (zipped x sv)))) := by rw [← e1, ← e]; exact upd_same
  rw [e1]
  clear e1 e g hD1
  -- theirs
  refine Ex_cons (Ex_AssignComp (xs := []) ⟨rfl, rfl, rfl⟩ (Src_zip ⟨rfl, rfl, rfl⟩ rfl (g_zip hK) (Ev_loc ⟨rfl, rfl, rfl⟩ rfl rfl (Ev_loc ⟨rfl, rfl, rfl⟩ rfl rfl ⟨x, t, _, rfl, hx, rfl, g1 _ _ ht, by rw [List.length_map]; omega, fun C hC hCL => ⟨fun i acc st => Grow hp1 st.hp ∧ acc = kidsL (theirsL ((zipped x sv).take i)), ⟨.refl _, rfl⟩, fun i acc st hi ⟨g, e⟩ => ⟨g _ _ (g1 _ _ ht), ?_⟩, fun acc st ⟨g, e⟩ => ⟨g _ _ (g1 _ _ ht), fun D2 hD2 => ?_⟩⟩⟩))))
  · have hi : i < (zipped x sv).length := by rw [List.length_map] at hi; rw [zipped_len]; exact hi
    refine Un1_of (zipped_item hi) ?_
    refine Un1_Tuple ?_
    refine UnL_cons ?_
    refine Un1_Name ?_
    refine Un_loc ⟨rfl, rfl, rfl⟩ rfl ?_
    refine UnL_cons ?_
    refine Un1_Name ?_
    refine Un_loc ⟨rfl, rfl, rfl⟩ rfl ?_
    refine UnL_nil ?_
    have et := (congrArg (fun l => kidsL (theirsL l)) (List.take_succ_eq_append_getElem hi)).trans (theirsL_snoc _ _)
    refine Tst_Compare (Ev_loc ⟨rfl, rfl, rfl⟩ rfl rfl (Ev_int (Op_gt ⟨_, rfl, fun hb => ?_, fun hb => ?_⟩)))
    · refine Ev_CallF ⟨rfl, rfl, rfl⟩ rfl (g__law_child hK) (keep_187 hK) ?_
      refine Evs_cons ?_
      refine Ev_loc ⟨rfl, rfl, rfl⟩ rfl rfl ?_
      refine Evs_cons ?_
      refine Ev.mono (k := fun a st' => a = .str (if (zipped x sv)[i].2 = 3 then "1" else "2") ∧ st'.hp = st.hp) ?_ ?_
      · refine Ev_IfExp ?_
        refine Tst_Compare ?_
        refine Ev_loc ⟨rfl, rfl, rfl⟩ rfl rfl ?_
        refine Ev_int ?_
        refine Op_eq rfl rfl ⟨_, rfl, fun hb => ?_, fun hb => ?_⟩
        · have h3 : (zipped x sv)[i].2 = 3 := by simpa [aeq] using hb
          exact Ev_str ⟨by rw [if_pos h3], rfl⟩
        · have h3 : (zipped x sv)[i].2 ≠ 3 := by intro q; rw [q] at hb; simp [aeq] at hb
          exact Ev_str ⟨by rw [if_neg h3], rfl⟩
      rintro _ st' ⟨rfl, ehp⟩
      refine Evs_nil ?_
      refine child_ hK fun hp2 g2 => ?_
      rw [ehp] at g2
      refine ⟨g.trans g2, ?_⟩
      rw [if_pos (of_decide_eq_true hb), ← e] at et
      exact et.symm
    · refine ⟨g, ?_⟩
      rw [if_neg (of_decide_eq_false hb), ← e, List.append_nil] at et
      exact et.symm
  rw [ef] at e
  have D2n := g.gone hD2
  obtain ⟨hp2, e2⟩ : ∃ q, upd st.hp D2 (.list acc) = q := ⟨_, rfl⟩
  have g2 : Grow hp1 hp2 := by rw [← e2]; exact g.thenNew hD2
  have c2 : hp2 D2 = some (.list (kidsL (theirsL (zipped x sv)))) := by rw [← e2, ← e]; exact upd_same
  rw [e2]
  clear e2 e g hD2
  have o1 := ours_ok (sv := sv) hx
  have o2 := theirs_ok (sv := sv) hx
  have n1 := Nat.le_trans (ours_len (zipped x sv)) lz
  have n2 := Nat.le_trans (theirs_len (zipped x sv)) lz
  have lt9 : ∀ s ∈ walk (oursL (zipped x sv)) (theirsL (zipped x sv)), spIn (oursL (zipped x sv)).length (theirsL (zipped x sv)).length s := bt_in _ _ _ _ _ _ (Nat.le_refl _) (Nat.le_refl _)
  have lw : (walk (oursL (zipped x sv)) (theirsL (zipped x sv))).length ≤ 200 := Nat.le_trans (bt_len _ _ _ _) (by omega)
  generalize oursL (zipped x sv) = l1 at *
  generalize theirsL (zipped x sv) = l2 at *
  -- the two flat forms
  refine Ex_cons ?_
  refine Ex_Assign ?_
  refine Ev_CallF ⟨rfl, rfl, rfl⟩ rfl (g_Matching hK) (keep_85 hK) ?_
  refine Evs_cons ?_
  refine Ev_CallF ⟨rfl, rfl, rfl⟩ rfl (g_FlatForm hK) (keep_148 hK) ?_
  refine Evs_cons ?_
  refine Ev_CallF ⟨rfl, rfl, rfl⟩ rfl (g__law_element hK) (keep_180 hK) ?_
  refine Evs_cons ?_
  refine Ev_str ?_
  refine Evs_cons ?_
  refine Ev_List ?_
  refine Evs_nil ?_
  refine ⟨by simp, fun E1 hE1 => ?_⟩
  refine Evs_cons ?_
  refine Ev_loc ⟨rfl, rfl, rfl⟩ rfl rfl ?_
  refine Evs_nil ?_
  refine element_ hK (rows := []) (ch := kidsL l1) upd_same (upd_at (g2 _ _ c1) hE1) ?_
  refine Evs_nil (flat_ hK (flatF o1 n1) fun f1 hp3 g3 F1 => ?_)
  refine Evs_cons ?_
  refine Ev_CallF ⟨rfl, rfl, rfl⟩ rfl (g_FlatForm hK) (keep_148 hK) ?_
  refine Evs_cons ?_
  refine Ev_CallF ⟨rfl, rfl, rfl⟩ rfl (g__law_element hK) (keep_180 hK) ?_
  refine Evs_cons ?_
  refine Ev_str ?_
  refine Evs_cons ?_
  refine Ev_List ?_
  refine Evs_nil ?_
  refine ⟨by simp, fun E2 hE2 => ?_⟩
  refine Evs_cons ?_
  refine Ev_loc ⟨rfl, rfl, rfl⟩ rfl rfl ?_
  refine Evs_nil ?_
  refine element_ hK (rows := []) (ch := kidsL l2) upd_same (upd_at (g3 _ _ (upd_at c2 hE1)) hE2) ?_
  refine Evs_nil (flat_ hK (flatF o2 n2) fun f2 hp4 g4 F2 => Evs_nil ?_)
  have F1' := (F1.grow (Grow.new (o := .list []) hE2)).grow g4
  refine matching_ hK o1 o2 n1 n2 F1' F2 fun m hp5 es g5 M V => ?_
  have F1'' := F1'.grow g5
  have F2'' := F2.grow g5
  have G5 : Grow hp hp5 := (((g1.trans g2).thenNew (o := .list []) hE1).trans g3).trans (((Grow.new (o := .list []) hE2).trans g4).trans g5)
  obtain ⟨dm, cd, hm, hdm, hc⟩ := id M
  refine Un_loc ⟨rfl, rfl, rfl⟩ rfl ?_
  refine Ex_cons ?_
  refine Ex_Assign ?_
  refine Ev_List ?_
  refine Evs_nil ?_
  refine ⟨by simp, fun D3 hD3 => ?_⟩
  refine Un_loc ⟨rfl, rfl, rfl⟩ rfl ?_
  have D3n : hp5 D3 = none := hD3
  have gD := Grow.new (o := .list []) D3n
  refine Ex_cons (Ex_For (Src_list ?_))
  refine Ev_CallF ⟨rfl, rfl, rfl⟩ rfl (g_inner_tasks hK) (keep_103 hK) ?_
  refine Evs_cons ?_
  refine Ev_loc ⟨rfl, rfl, rfl⟩ rfl rfl ?_
  refine Evs_cons ?_
  have A1 := F1''.grow gD
  have A2 := F2''.grow gD
  obtain ⟨d1, ff1, cs1, sz1, pa1, pl1, kids1, x1, y1, z1, _⟩ := id A1
  obtain ⟨d2, ff2, cs2, sz2, pa2, pl2, kids2, x2, y2, z2, _⟩ := id A2
  refine Ev_Meth0 (Ev_Attr (Ev_loc ⟨rfl, rfl, rfl⟩ rfl rfl (Op_attr (gD _ _ hm) (gD _ _ hdm) rfl (get_85_one hK) (hasd_85 hK) (fnd_85_one hK) (noGet0 hK) ⟨_, Mth_inst x1 y1 rfl (get_148_top hK) (fnd_148_top hK) (isf_138 hK), keeps_K (keep_138 hK), OpL_Cal (top_ hK A1 ?_)⟩)))
  refine Evs_cons (Ev_Meth0 (Ev_Attr (Ev_loc ⟨rfl, rfl, rfl⟩ rfl rfl (Op_attr (gD _ _ hm) (gD _ _ hdm) rfl (get_85_other hK) (hasd_85 hK) (fnd_85_other hK) (noGet0 hK) ⟨_, Mth_inst x2 y2 rfl (get_148_top hK) (fnd_148_top hK) (isf_138 hK), keeps_K (keep_138 hK), OpL_Cal (top_ hK A2 ?_)⟩))))
  refine Evs_cons ?_
  refine Ev_loc ⟨rfl, rfl, rfl⟩ rfl rfl ?_
  refine Evs_nil ?_
  rw [kidsL_len, kidsL_len]
  refine inner_ hK (es := es) n1 n2 (by rw [List.length_map]; omega) A1 A2 ⟨dm, cd, gD _ _ hm, gD _ _ hdm, gD _ _ hc⟩ V fun R hp6 g6 R0 eR => ?_
  have g6' : Grow hp5 hp6 := gD.trans g6
  have nR : R ≠ D3 := (ne_at upd_same R0).symm
  obtain ⟨u1, gg1, _, _, _, _, _, v1, w1, t1, _⟩ := id F1''
  obtain ⟨u2, gg2, _, _, _, _, _, v2, w2, t2, _⟩ := id F2''
  have eD := g6 _ _ (upd_same (f := hp5) (a := D3) (o := AO.list []))
  refine ⟨R, _, rfl, eR, fun i st => And6 (And4 (Grow hp5 st.hp) (i = 0 ∨ True) (st.hp D3 = some (.list (((walk l1 l2).take i).map (toldOf (pi.map .int) l1 l2)))) (st.hp R = some (.list ((walk l1 l2).map (taskOf (pi.map .int) l2))))) (st.loc "matching" = some (.ref m)) (st.loc "told" = some (.ref D3)) (st.loc "names" = some (.str x)) (st.loc "states" = some (.ref t)) (st.loc "path" = some (.tup (pi.map .int))),
    ⟨⟨g6', .inl rfl, by simpa using eD, eR⟩, rfl, rfl, rfl, rfl, rfl⟩, fun i st hi ⟨⟨g, _, q1, q2⟩, a1, a2, a3, a4, a5⟩ => ⟨q2, ?_⟩, fun st ⟨⟨g, _, q1, q2⟩, a1, a2, a3, a4, a5⟩ => ⟨q2, ?_⟩⟩
  · have hi : i < (walk l1 l2).length := by rw [List.length_map] at hi; exact hi
    have sin := lt9 _ (List.getElem_mem hi)
    have et := map_take (toldOf (pi.map .int) l1 l2) hi
    have ei : ((walk l1 l2).map (taskOf (pi.map .int) l2)).getD i .none = taskOf (pi.map .int) l2 (walk l1 l2)[i] := getD_map hi
    have len : (((walk l1 l2).take i).map (toldOf (pi.map .int) l1 l2)).length < 100000 := by rw [List.length_map, List.length_take]; omega
    refine Un1_of ei (Un1_Name (Un_loc ⟨rfl, rfl, rfl⟩ rfl ?_))
    generalize (walk l1 l2)[i] = s at sin et
    refine Ex_cons (Ex.mono (k := fun f st' => And8 (f = .next) (st'.hp = st.hp) (st'.loc "task" = some (toldOf (pi.map .int) l1 l2 s)) (st'.loc "matching" = some (.ref m)) (st'.loc "told" = some (.ref D3)) (st'.loc "names" = some (.str x)) (st'.loc "states" = some (.ref t)) (st'.loc "path" = some (.tup (pi.map .int)))) ?_ ?_)
    · cases s with
      | keep a b =>
        obtain ⟨sa, sb⟩ := sin
        refine Ex_If ?_
        refine Tst_Compare ?_
        refine Ev_Sub ?_
        refine Ev_loc ⟨rfl, rfl, rfl⟩ rfl rfl ?_
        refine Ev_int ?_
        refine Op_subT (by decide) (by simp) rfl ?_
        refine Ev_str ?_
        refine Op_eq strEq_ok strEq_ok ⟨_, rfl, fun hb => ?_, fun hb => ?_⟩
        · refine Ex_cons ?_
          refine Ex_Assign ?_
          refine Ev_BinOp ?_
          refine Ev_SubTup (Ev_loc ⟨rfl, rfl, rfl⟩ rfl rfl ⟨_, rfl, Ev_int ⟨2, rfl, by simp, by simp, ?_⟩⟩)
          refine Ev_Tuple ?_
          refine Evs_cons ?_
          refine Ev_Sub ?_
          refine Ev_Attr ?_
          refine Ev_Attr ?_
          refine Ev_loc ⟨rfl, rfl, rfl⟩ rfl a1 ?_
          refine Op_attr (g _ _ hm) (g _ _ hdm) rfl (get_85_one hK) (hasd_85 hK) (fnd_85_one hK) (noGet0 hK) ?_
          refine Op_attr (g _ _ v1) (g _ _ w1) rfl (get_148_forms hK) (hasd_148 hK) (fnd_148_forms hK) (noGet0 hK) ?_
          refine Ev_Sub ?_
          refine Ev_loc ⟨rfl, rfl, rfl⟩ rfl rfl ?_
          refine Ev_int ?_
          refine Op_subT (by decide) (by simp) rfl ?_
          refine Op_subL (g _ _ t1) (by omega) (by rw [Int.toNat_natCast]; exact form_at (by omega)) ?_
          refine Evs_cons ?_
          refine Ev_Sub ?_
          refine Ev_Attr ?_
          refine Ev_Attr ?_
          refine Ev_loc ⟨rfl, rfl, rfl⟩ rfl a1 ?_
          refine Op_attr (g _ _ hm) (g _ _ hdm) rfl (get_85_other hK) (hasd_85 hK) (fnd_85_other hK) (noGet0 hK) ?_
          refine Op_attr (g _ _ v2) (g _ _ w2) rfl (get_148_forms hK) (hasd_148 hK) (fnd_148_forms hK) (noGet0 hK) ?_
          refine Ev_Sub ?_
          refine Ev_loc ⟨rfl, rfl, rfl⟩ rfl rfl ?_
          refine Ev_int ?_
          refine Op_subT (by decide) (by simp) rfl ?_
          refine Op_subL (g _ _ t2) (by omega) (by rw [Int.toNat_natCast]; exact form_at (by omega)) ?_
          refine Evs_nil ?_
          refine ⟨by simp, Op_addT (by simp) (Un_loc ⟨rfl, rfl, rfl⟩ rfl (Ex_nil ⟨rfl, rfl, rfl, a1, a2, a3, a4, a5⟩))⟩
        · exact absurd hb (by decide +kernel)
      | out a =>
        refine Ex_If ?_
        refine Tst_Compare ?_
        refine Ev_Sub ?_
        refine Ev_loc ⟨rfl, rfl, rfl⟩ rfl rfl ?_
        refine Ev_int ?_
        refine Op_subT (by decide) (by simp) rfl ?_
        refine Ev_str ?_
        refine Op_eq strEq_ok strEq_ok ⟨_, rfl, fun hb => ?_, fun hb => ?_⟩
        · exact absurd hb (by decide +kernel)
        · exact Ex_nil ⟨rfl, rfl, rfl, a1, a2, a3, a4, a5⟩
      | ins a b =>
        refine Ex_If ?_
        refine Tst_Compare ?_
        refine Ev_Sub ?_
        refine Ev_loc ⟨rfl, rfl, rfl⟩ rfl rfl ?_
        refine Ev_int ?_
        refine Op_subT (by decide) (by simp) rfl ?_
        refine Ev_str ?_
        refine Op_eq strEq_ok strEq_ok ⟨_, rfl, fun hb => ?_, fun hb => ?_⟩
        · exact absurd hb (by decide +kernel)
        · exact Ex_nil ⟨rfl, rfl, rfl, a1, a2, a3, a4, a5⟩
    rintro f st' ⟨rfl, ehp, b0, b1, b2, b3, b4, b5⟩
    have ehp : st'.hp = st.hp := ehp
    refine Ex_cons (Ex_Expr (Ev_Meth (Ev_loc ⟨rfl, rfl, rfl⟩ rfl b2 ⟨_, Mth_append (by rw [ehp]; exact q1), fun h _ => plainF_keeps rfl h, ?_⟩)))
    refine Evs_cons ?_
    refine Ev_loc ⟨rfl, rfl, rfl⟩ rfl b0 ?_
    refine Evs_nil ?_
    refine Op_append (by rw [ehp]; exact q1) len ?_
    refine ⟨rfl, Ex_nil ⟨⟨?_, .inr trivial, ?_, ?_⟩, b1, b2, b3, b4, b5⟩⟩
    · show Grow hp5 (upd st'.hp D3 _)
      rw [ehp]; exact g.thenUpd D3n
    · show upd st'.hp D3 _ D3 = _
      rw [et]; exact upd_same
    · show upd st'.hp D3 _ R = _
      rw [ehp]; exact upd_off q2 nR
  · replace q1 : st.hp D3 = some (.list (((walk l1 l2).take (walk l1 l2).length).map (toldOf (pi.map .int) l1 l2))) := by rw [List.length_map] at q1; exact q1
    rw [List.take_length] at q1
    have G := G5.trans g
    refine Ex_cons ?_
    refine Ex_Return ?_
    refine Ev_Compare ?_
    refine Ev_loc ⟨rfl, rfl, rfl⟩ rfl a2 ?_
    refine Ev_CallF ⟨rfl, rfl, rfl⟩ rfl (g__law_tasks hK) (keep_194 hK) ?_
    refine Evs_cons ?_
    refine Ev_loc ⟨rfl, rfl, rfl⟩ rfl a3 ?_
    refine Evs_cons ?_
    refine Ev_loc ⟨rfl, rfl, rfl⟩ rfl a4 ?_
    refine Evs_cons ?_
    refine Ev_loc ⟨rfl, rfl, rfl⟩ rfl a5 ?_
    refine Evs_nil ?_
    refine tasks_ hK hx (G _ _ ht) hz (by rw [List.length_map]; omega) fun r hp7 g7 e7 => ?_
    rw [← law] at e7
    have ok : ∀ a ∈ (walk l1 l2).map (toldOf (pi.map .int) l1 l2), dOk 9 a = true := fun a ha => by
      obtain ⟨s, hs, rfl⟩ := List.mem_map.mp ha
      exact told_ok o1 o2 (lt9 s hs)
    refine Op_eqList (g7 _ _ q1) e7 ok ok ?_
    rw [aeqs_self (n := 9) ok]
    exact h _ (G.trans g7)
end
end Mu
end
noncomputable section
open PySem PySem.W PySem.Calls PyProof.Rows
set_option Elab.async false
set_option linter.unusedVariables false
set_option maxRecDepth 100000
set_option maxHeartbeats 4000000
namespace Mu
abbrev Ch := Option (Str × Str)
def chAV : Ch → AV
  | none => .none
  | some p => .tup [.str p.1, .str p.2]
def chOk : Ch → Bool
  | none => true
  | some p => PyData.strOk p.1 && PyData.strOk p.2
def ksL : List (List Str) := [[("" : Str), ("a" : Str)], [("" : Str), ("b" : Str)], [("u:1" : Str), ("a" : Str)]]
def rowC (k : List Str) : Ch → List Row
  | none => []
  | some p => [(k, p.1, p.2)]
def dueC (path : AV) (k : List Str) (a b : Ch) : List AV := if aeq (chAV a) (chAV b) = true then [] else [.tup ([.str "attribute", path, aS k] ++ (match b with
  | none => [.none, .none]
  | some p => [.str p.1, .str p.2]))]
def rowsC : List (List Str) → List Ch → List Row
  | k :: ks, a :: s => rowC k a ++ rowsC ks s
  | _, _ => []
def duesC (path : AV) : List (List Str) → List Ch → List Ch → List AV
  | k :: ks, a :: s, b :: t => dueC path k a b ++ duesC path ks s t
  | _, _, _ => []
def k0 : List Str := [("" : Str), ("a" : Str)]
def k1 : List Str := [("" : Str), ("b" : Str)]
def k2 : List Str := [("u:1" : Str), ("a" : Str)]
def here (k : List Str) (a b : Ch) : List (List Str) := match a, b with
  | none, none => []
  | _, _ => [k]
theorem sorted_keys (a0 a1 a2 b0 b1 b2 : Ch) : sortKs (unKeys (rowsC ksL [a0, a1, a2]) (rowsC ksL [b0, b1, b2])) = here k0 a0 b0 ++ (here k1 a1 b1 ++ (here k2 a2 b2 ++ [])) := by
  cases a0 <;> cases a1 <;> cases a2 <;> cases b0 <;> cases b1 <;> cases b2 <;> kernel_rfl
def nvC (c : Ch) : Option AV := match c with
  | none => none
  | some p => some (.tup [.str p.1, .str p.2])
theorem get0 (a0 a1 a2 : Ch) : dget (rowsD (rowsC ksL [a0, a1, a2])) k0 = nvC a0 := by cases a0 <;> cases a1 <;> cases a2 <;> kernel_rfl
theorem get1 (a0 a1 a2 : Ch) : dget (rowsD (rowsC ksL [a0, a1, a2])) k1 = nvC a1 := by cases a0 <;> cases a1 <;> cases a2 <;> kernel_rfl
theorem get2 (a0 a1 a2 : Ch) : dget (rowsD (rowsC ksL [a0, a1, a2])) k2 = nvC a2 := by cases a0 <;> cases a1 <;> cases a2 <;> kernel_rfl
theorem part (path : AV) (f g : List (List Str × AV)) (k : List Str) (a b : Ch) (hf : dget f k = nvC a) (hg : dget g k = nvC b) : ((here k a b).flatMap (finding f g)).map (editOf path) = dueC path k a b := by
  cases a with
  | none =>
    cases b with
    | none => simp [here, dueC, chAV, aeq]
    | some p =>
      have e : finding f g k = [.tup [aS k, .str p.1, .str p.2]] := by
        unfold finding; rw [hg, hf]; simp [nvC, aeq]
      simp [here, e, dueC, chAV, aeq, editOf]
  | some p =>
    cases b with
    | none =>
      have e : finding f g k = [.tup [aS k, .none, .none]] := finding_none hg
      simp [here, e, dueC, chAV, aeq, editOf]
    | some q =>
      have e : finding f g k = if aeq (.tup [.str p.1, .str p.2]) (.tup [.str q.1, .str q.2]) = true then [] else [.tup [aS k, .str q.1, .str q.2]] := by
        unfold finding; rw [hg, hf]; rfl
      have e2 : dueC path k (some p) (some q) = if aeq (.tup [.str p.1, .str p.2]) (.tup [.str q.1, .str q.2]) = true then [] else [.tup [.str "attribute", path, aS k, .str q.1, .str q.2]] := rfl
      have e3 : (here k (some p) (some q)).flatMap (finding f g) = finding f g k := by simp [here]
      rw [e3, e, e2]
      by_cases h : aeq (.tup [.str p.1, .str p.2]) (.tup [.str q.1, .str q.2]) = true
      · rw [if_pos h, if_pos h]; rfl
      · rw [if_neg h, if_neg h]; rfl
theorem own_law (path : AV) (a0 a1 a2 b0 b1 b2 : Ch) : (unlike (rowsC ksL [a0, a1, a2]) (rowsC ksL [b0, b1, b2])).map (editOf path) = duesC path ksL [a0, a1, a2] [b0, b1, b2] := by
  unfold unlike
  rw [sorted_keys, List.flatMap_append, List.flatMap_append, List.flatMap_append, List.map_append, List.map_append, List.map_append, part path _ _ k0 a0 b0 (get0 ..) (get0 ..), part path _ _ k1 a1 b1 (get1 ..) (get1 ..), part path _ _ k2 a2 b2 (get2 ..) (get2 ..)]
  rfl
theorem own_small (a0 a1 a2 b0 b1 b2 : Ch) : (unKeys (rowsC ksL [a0, a1, a2]) (rowsC ksL [b0, b1, b2])).length ≤ 3 ∧ ∀ k ∈ unKeys (rowsC ksL [a0, a1, a2]) (rowsC ksL [b0, b1, b2]), k ≠ [] := by
  have len : (unKeys (rowsC ksL [a0, a1, a2]) (rowsC ksL [b0, b1, b2])).length = (here k0 a0 b0 ++ (here k1 a1 b1 ++ (here k2 a2 b2 ++ []))).length := by
    cases a0 <;> cases a1 <;> cases a2 <;> cases b0 <;> cases b1 <;> cases b2 <;> kernel_rfl
  have all : (unKeys (rowsC ksL [a0, a1, a2]) (rowsC ksL [b0, b1, b2])).all (fun k => !k.isEmpty) = true := by
    cases a0 <;> cases a1 <;> cases a2 <;> cases b0 <;> cases b1 <;> cases b2 <;> kernel_rfl
  refine ⟨?_, fun k hk e => ?_⟩
  · rw [len]
    have h1 : ∀ k (a b : Ch), (here k a b).length ≤ 1 := fun k a b => by unfold here; split <;> simp
    have := h1 k0 a0 b0
    have := h1 k1 a1 b1
    have := h1 k2 a2 b2
    simp only [List.length_append, List.length_nil]
    omega
  · have := List.all_eq_true.mp all k hk
    rw [e] at this; cases this
def textL (v : Str) : List AV := [.str "text", .str "", .str v, .tup [], .tup []]
theorem rowC_ok {k : List Str} {a : Ch} (h : chOk a = true) : rowsOk (rowC k a) = true := by
  cases a with
  | none => rfl
  | some p => simpa [rowC, rowsOk, chOk] using h
theorem rowsC_ok : ∀ {ks : List (List Str)} {s : List Ch}, (∀ a ∈ s, chOk a = true) → rowsOk (rowsC ks s) = true
  | [], _, _ => by unfold rowsC; rfl
  | k :: ks, [], _ => by unfold rowsC; rfl
  | k :: ks, a :: s, h => by
    unfold rowsC rowsOk
    rw [List.all_append]
    have h1 := rowC_ok (k := k) (h a (.head _))
    have h2 := rowsC_ok (ks := ks) fun b hb => h b (.tail _ hb)
    unfold rowsOk at h1 h2
    rw [h1, h2]; rfl
theorem chAV_ok {a : Ch} (h : chOk a = true) (n : Nat) : dOk (n + 1) (chAV a) = true := by
  cases a with
  | none => cases n <;> rfl
  | some p =>
    simp only [chOk, Bool.and_eq_true] at h
    cases n <;> simp [chAV, dOk, h.1, h.2]
theorem rowsC_len : ∀ (ks : List (List Str)) (s : List Ch), (rowsC ks s).length ≤ s.length
  | [], s => by unfold rowsC; simp
  | _ :: _, [] => by unfold rowsC; simp
  | k :: ks, a :: s => by
    unfold rowsC
    rw [List.length_append, List.length_cons]
    have := rowsC_len ks s
    have : (rowC k a).length ≤ 1 := by cases a <;> simp [rowC]
    omega
end Mu
end
noncomputable section
open PySem PySem.W PySem.Calls PyProof.Rows
set_option Elab.async false
set_option linter.unusedVariables false
set_option maxRecDepth 100000
set_option maxHeartbeats 4000000
namespace Mu
theorem cells2 {n m : Str} {a b : Addr} {y : Str} {cx : Addr} (e : List.lookup y [(n, a), (m, b)] = some cx) : (y = n ∧ cx = a) ∨ (y = m ∧ cx = b) := by
  rw [List.lookup_cons] at e
  cases q : y == n with
  | true => rw [q] at e; cases e; exact .inl ⟨beq_iff_eq.mp q, rfl⟩
  | false =>
    rw [q, List.lookup_cons] at e
    cases q2 : y == m with
    | true => rw [q2] at e; cases e; exact .inr ⟨beq_iff_eq.mp q2, rfl⟩
    | false => rw [q2] at e; cases e
/-- the three keys as the text has them -/
def kThree : List AV := [.tup [aS k0, .str "a", .str "a"], .tup [aS k1, .str "b", .str "b"], .tup [aS k2, .str "p:a", .str "q:a"]]
def nmOf (i : Nat) : Str := match i with
  | 0 => "a"
  | 1 => "b"
  | _ => "p:a"
def otOf (i : Nat) : Str := match i with
  | 0 => "a"
  | 1 => "b"
  | _ => "q:a"
def someOf (i : Nat) : List Ch := [none, some (nmOf i, "1"), some (nmOf i, "2"), some (otOf i, "2")]
theorem some_ok (i : Nat) : ∀ a ∈ someOf i, chOk a = true := by
  match i with
  | 0 => decide +kernel
  | 1 => decide +kernel
  | i + 2 => 
    have : someOf (i + 2) = someOf 2 := rfl
    rw [this]; decide +kernel
theorem kThree_at {i : Nat} (h : i < 3) : kThree.getD i .none = .tup [aS (ksL.getD i []), .str (nmOf i), .str (otOf i)] := by
  match i, h with
  | 0, _ => rfl
  | 1, _ => rfl
  | 2, _ => rfl
theorem rowsC_snoc {i : Nat} (hi : i < 3) : ∀ (s : List Ch) (a : Ch), s.length = i → rowsC ksL (s ++ [a]) = rowsC ksL s ++ rowC (ksL.getD i []) a := by
  intro s a hs
  match i, hi, s, hs with
  | 0, _, [], _ => unfold rowsC; cases a <;> rfl
  | 1, _, [x], _ => simp [rowsC, ksL]
  | 2, _, [x, y], _ => simp [rowsC, ksL]
theorem duesC_snoc (path : AV) {i : Nat} (hi : i < 3) : ∀ (s t : List Ch) (a b : Ch), s.length = i → t.length = i → duesC path ksL (s ++ [a]) (t ++ [b]) = duesC path ksL s t ++ dueC path (ksL.getD i []) a b := by
  intro s t a b hs ht
  match i, hi, s, hs, t, ht with
  | 0, _, [], _, [], _ => simp [duesC, ksL]
  | 1, _, [x], _, [y], _ => simp [duesC, ksL]
  | 2, _, [x, y], _, [z, w], _ => simp [duesC, ksL]
theorem duesC_len (path : AV) : ∀ (ks : List (List Str)) (s t : List Ch), (duesC path ks s t).length ≤ ks.length
  | [], s, t => by unfold duesC; simp
  | k :: ks, [], t => by unfold duesC; simp
  | k :: ks, _ :: _, [] => by unfold duesC; simp
  | k :: ks, a :: s, b :: t => by
    unfold duesC
    rw [List.length_append, List.length_cons]
    have := duesC_len path ks s t
    have : (dueC path k a b).length ≤ 1 := by unfold dueC; split <;> simp
    omega

def ra_ (x y : List Row) : Nat → List Row
  | 0 => x
  | _ => y
def rb_ (x y : List Row) : Nat → List Row
  | 0 => x
  | 1 => x
  | _ => y
/-- what stands in the heap at a turn -/
structure Own (s A r0 r1 B D : Addr) (ra rb : List Row) (due : List AV) (q : AH) : Prop where
  src : SrcL q s
  kA : q A = some (.list kThree)
  k0 : q r0 = some (.list (ra.map rowAV))
  k1 : q r1 = some (.list (rb.map rowAV))
  kB : q B = some (.list [.ref r0, .ref r1])
  kD : q D = some (.list due)
theorem Own.grow {s A r0 r1 B D : Addr} {ra rb : List Row} {due : List AV} {q q' : AH} (h : Own s A r0 r1 B D ra rb due q) (g : Grow q q') : Own s A r0 r1 B D ra rb due q' :=
  ⟨let ⟨a, b, e, r, r2, r3⟩ := h.src; ⟨a, b, g _ _ e, r, r2, r3⟩, g _ _ h.kA, g _ _ h.k0, g _ _ h.k1, g _ _ h.kB, g _ _ h.kD⟩
/-- the six lie apart -/
structure Six (s A r0 r1 B D : Addr) : Prop where
  sA : s ≠ A
  s0 : s ≠ r0
  s1 : s ≠ r1
  sB : s ≠ B
  sD : s ≠ D
  A0 : A ≠ r0
  A1 : A ≠ r1
  AD : A ≠ D
  n01 : r0 ≠ r1
  n0B : r0 ≠ B
  n0D : r0 ≠ D
  n1B : r1 ≠ B
  n1D : r1 ≠ D
  BD : B ≠ D
theorem Own.draw {s A r0 r1 B D : Addr} {ra rb : List Row} {due : List AV} {q q' : AH} (X : Six s A r0 r1 B D) (h : Own s A r0 r1 B D ra rb due q) (g : Gb [s] q q') (S : SrcL q' s) : Own s A r0 r1 B D ra rb due q' :=
  ⟨S, g _ _ (by simpa using X.sA.symm) h.kA, g _ _ (by simpa using X.s0.symm) h.k0, g _ _ (by simpa using X.s1.symm) h.k1, g _ _ (by simpa using X.sB.symm) h.kB, g _ _ (by simpa using X.sD.symm) h.kD⟩
theorem Own.put0 {s A r0 r1 B D : Addr} {ra ra' rb : List Row} {due : List AV} {q : AH} (X : Six s A r0 r1 B D) (h : Own s A r0 r1 B D ra rb due q) : Own s A r0 r1 B D ra' rb due (upd q r0 (.list (ra'.map rowAV))) :=
  ⟨let ⟨a, b, e, r, r2, r3⟩ := h.src; ⟨a, b, upd_off e X.s0, r, r2, r3⟩, upd_off h.kA X.A0, upd_same, upd_off h.k1 X.n01.symm, upd_off h.kB X.n0B.symm, upd_off h.kD X.n0D.symm⟩
theorem Own.put1 {s A r0 r1 B D : Addr} {ra rb rb' : List Row} {due : List AV} {q : AH} (X : Six s A r0 r1 B D) (h : Own s A r0 r1 B D ra rb due q) : Own s A r0 r1 B D ra rb' due (upd q r1 (.list (rb'.map rowAV))) :=
  ⟨let ⟨a, b, e, r, r2, r3⟩ := h.src; ⟨a, b, upd_off e X.s1, r, r2, r3⟩, upd_off h.kA X.A1, upd_off h.k0 X.n01, upd_same, upd_off h.kB X.n1B.symm, upd_off h.kD X.n1D.symm⟩
theorem Own.putD {s A r0 r1 B D : Addr} {ra rb : List Row} {due due' : List AV} {q : AH} (X : Six s A r0 r1 B D) (h : Own s A r0 r1 B D ra rb due q) : Own s A r0 r1 B D ra rb due' (upd q D (.list due')) :=
  ⟨let ⟨a, b, e, r, r2, r3⟩ := h.src; ⟨a, b, upd_off e X.sD, r, r2, r3⟩, upd_off h.kA X.AD, upd_off h.k0 X.n0D, upd_off h.k1 X.n1D, upd_off h.kB X.BD, upd_same⟩

theorem path_ok (pi : List Int) (n : Nat) : dOk (n + 1) (.tup (pi.map .int)) = true := ints_ok pi n
theorem dues_ok (pi : List Int) : ∀ (ks : List (List Str)) (s t : List Ch), (∀ k ∈ ks, ∀ x ∈ k, PyData.strOk x = true) → (∀ x ∈ t, chOk x = true) → ∀ a ∈ duesC (.tup (pi.map .int)) ks s t, dOk 9 a = true
  | [], s, t, _, _, a, ha => by unfold duesC at ha; cases ha
  | k :: ks, [], t, _, _, a, ha => by unfold duesC at ha; cases ha
  | k :: ks, _ :: _, [], _, _, a, ha => by unfold duesC at ha; cases ha
  | k :: ks, x :: s, y :: t, hk, ht, a, ha => by
    unfold duesC at ha
    rcases List.mem_append.mp ha with ha | ha
    · unfold dueC at ha
      split at ha
      · cases ha
      · rw [List.mem_singleton.mp ha]
        have e1 : dOk 8 (.str "attribute") = true := by decide +kernel
        have e2 : dOk 8 (aS k) = true := List.all_eq_true.mpr fun z hz => by
          obtain ⟨q, hq, rfl⟩ := List.mem_map.mp hz
          exact hk k (.head _) q hq
        have hy := ht y (.head _)
        cases y with
        | none =>
          show ([AV.str "attribute", AV.tup (pi.map AV.int), aS k] ++ [AV.none, AV.none] : List AV).all (dOk 8) = true
          simp only [List.cons_append, List.nil_append, List.all_cons, List.all_nil, e1, e2, path_ok pi 7, Bool.and_self]
          rfl
        | some p =>
          simp only [chOk, Bool.and_eq_true] at hy
          have e3 : dOk 8 (.str p.1) = true := hy.1
          have e4 : dOk 8 (.str p.2) = true := hy.2
          show ([AV.str "attribute", AV.tup (pi.map AV.int), aS k] ++ [AV.str p.1, AV.str p.2] : List AV).all (dOk 8) = true
          simp only [List.cons_append, List.nil_append, List.all_cons, List.all_nil, e1, e2, e3, e4, path_ok pi 7, Bool.and_self]
    · exact dues_ok pi ks s t (fun k' h => hk k' (.tail _ h)) (fun z hz => ht z (.tail _ hz)) a ha
theorem ksL_ok : ∀ k ∈ ksL, ∀ x ∈ k, PyData.strOk x = true := by decide +kernel
theorem text_eq (v w : Str) : aeq (.tup (textL v)) (.tup (textL w)) = (v == w) := by simp [textL, aeq, aeqs]
theorem text_ok {v : Str} (h : PyData.strOk v = true) (n : Nat) : dOk (n + 2) (.tup (textL v)) = true := by
  have e1 : PyData.strOk "text" = true := by decide +kernel
  have e2 : PyData.strOk "" = true := by decide +kernel
  simp [textL, dOk, h, e1, e2]

section
variable {c : Cx} {P : Params} (hK : c.K = KK P)
include hK

theorem own_right_ {N : Nat} {s : Addr} {pi : List Int} {k : AV → AH → Prop} {hp : AH} (S : SrcL hp s) (lp : pi.length ≤ 800) (h : ∀ hp', k (.bool true) hp') : Cal c (N + 5) (.ref 204) [.ref s, .tup (pi.map .int)] k hp := by
  refine Cal_fn (⟨⟨_, _, _, by rw [hK]; k_is⟩, by rw [hK]; k_is, by exact rfl, rfl, rfl, rfl, (by intro vs hv; obtain ⟨_, vs1, rfl, hv1⟩ := vlenS (n := 1) hv; obtain ⟨_, vs2, rfl, hv2⟩ := vlenS (n := 0) hv1; obtain rfl := vlen0 hv2; rfl), (by decide), allCons (by first | exact .inl rfl | exact .inr ⟨rfl, fun _ => rfl⟩) <| allCons (by first | exact .inl rfl | exact .inr ⟨rfl, fun _ => rfl⟩) <| allNil, rfl, rfl, rfl⟩ : Fn c 204 ⟨_, _, ⟨_, _, _, _, _, _, _⟩, .stmts (_ :: _), ⟨_, _, _, _, _⟩, _, _, _, _, _, _, _, _, _, _⟩ (_ :: _) ["source", "path"]) rfl fun L hL => ?_
  refine Ex_cons ?_
  refine Ex_AssignSwap ?_
  refine Ev_Tuple ?_
  refine Evs_cons ?_
  refine Ev_List ?_
  refine Evs_cons ?_
  refine Ev_Tuple ?_
  refine Evs_cons ?_
  refine Ev_Tuple ?_
  refine Evs_cons ?_
  refine Ev_str ?_
  refine Evs_cons ?_
  refine Ev_str ?_
  refine Evs_nil ?_
  refine ⟨by simp, ?_⟩
  refine Evs_cons ?_
  refine Ev_str ?_
  refine Evs_cons ?_
  refine Ev_str ?_
  refine Evs_nil ?_
  refine ⟨by simp, ?_⟩
  refine Evs_cons ?_
  refine Ev_Tuple ?_
  refine Evs_cons ?_
  refine Ev_Tuple ?_
  refine Evs_cons ?_
  refine Ev_str ?_
  refine Evs_cons ?_
  refine Ev_str ?_
  refine Evs_nil ?_
  refine ⟨by simp, ?_⟩
  refine Evs_cons ?_
  refine Ev_str ?_
  refine Evs_cons ?_
  refine Ev_str ?_
  refine Evs_nil ?_
  refine ⟨by simp, ?_⟩
  refine Evs_cons ?_
  refine Ev_Tuple ?_
  refine Evs_cons ?_
  refine Ev_Tuple ?_
  refine Evs_cons ?_
  refine Ev_str ?_
  refine Evs_cons ?_
  refine Ev_str ?_
  refine Evs_nil ?_
  refine ⟨by simp, ?_⟩
  refine Evs_cons ?_
  refine Ev_str ?_
  refine Evs_cons ?_
  refine Ev_str ?_
  refine Evs_nil ?_
  refine ⟨by simp, ?_⟩
  refine Evs_nil ?_
  refine ⟨by simp, fun A hA => ?_⟩
  refine Evs_cons ?_
  refine Ev_List ?_
  refine Evs_cons ?_
  refine Ev_List ?_
  refine Evs_nil ?_
  refine ⟨by simp, fun r0 hr0 => ?_⟩
  refine Evs_cons ?_
  refine Ev_List ?_
  refine Evs_nil ?_
  refine ⟨by simp, fun r1 hr1 => ?_⟩
  refine Evs_nil ?_
  refine ⟨by simp, fun B hB => ?_⟩
  refine Evs_nil ?_
  refine ⟨by simp, _, rfl, rfl, ?_⟩
  refine UnL_cons ?_
  refine Un1_bind ?_
  refine Un_loc ⟨rfl, rfl, rfl⟩ rfl ?_
  refine UnL_cons ?_
  refine Un1_bind ?_
  refine Un_loc ⟨rfl, rfl, rfl⟩ rfl ?_
  refine UnL_nil ?_
  refine Ex_cons ?_
  refine Ex_Assign ?_
  refine Ev_List ?_
  refine Evs_nil ?_
  refine ⟨by simp, fun D hD => ?_⟩
  refine Un_loc ⟨rfl, rfl, rfl⟩ rfl ?_
  have An : hp A = none := hA
  have q1 : Grow hp (upd hp A (.list kThree)) := Grow.new An
  have r0n : hp r0 = none := q1.gone hr0
  have q2 := q1.thenNew (o := .list []) hr0
  have r1n : hp r1 = none := q2.gone hr1
  have q3 := q2.thenNew (o := .list []) hr1
  have Bn : hp B = none := q3.gone hB
  have q4 := q3.thenNew (o := .list [.ref r0, .ref r1]) hB
  have Dn : hp D = none := q4.gone hD
  have q5 := q4.thenNew (o := .list []) hD
  have kA : _ = some (AO.list kThree) := upd_at (o' := .list []) (upd_at (o' := .list [.ref r0, .ref r1]) (upd_at (o' := .list []) (upd_at (o' := .list []) (upd_same (f := hp) (a := A)) hr0) hr1) hB) hD
  have kr0 : _ = some (AO.list []) := upd_at (o' := .list []) (upd_at (o' := .list [.ref r0, .ref r1]) (upd_at (o' := .list []) (upd_same (a := r0)) hr1) hB) hD
  have kr1 : _ = some (AO.list []) := upd_at (o' := .list []) (upd_at (o' := .list [.ref r0, .ref r1]) (upd_same (a := r1)) hB) hD
  have kB : _ = some (AO.list [.ref r0, .ref r1]) := upd_at (o' := .list []) (upd_same (a := B)) hD
  have n01 : r0 ≠ r1 := ne_at upd_same hr1
  have n0B : r0 ≠ B := ne_at (upd_at upd_same hr1) hB
  have n1B : r1 ≠ B := ne_at upd_same hB
  have n0D : r0 ≠ D := ne_at (upd_at (upd_at upd_same hr1) hB) hD
  have n1D : r1 ≠ D := ne_at (upd_at upd_same hB) hD
  have nBD : B ≠ D := ne_at upd_same hD
  have nA0 : A ≠ r0 := ne_at upd_same hr0
  have nA1 : A ≠ r1 := ne_at (upd_at upd_same hr0) hr1
  have nAB : A ≠ B := ne_at (upd_at (upd_at upd_same hr0) hr1) hB
  have nAD : A ≠ D := ne_at (upd_at (upd_at (upd_at upd_same hr0) hr1) hB) hD
  obtain ⟨a, b, es, a0, b0, b1⟩ := id S
  have X : Six s A r0 r1 B D := ⟨ne_at es An, ne_at es r0n, ne_at es r1n, ne_at es Bn, ne_at es Dn, nA0, nA1, nAD, n01, n0B, n0D, n1B, n1D, nBD⟩
  have W : Own s A r0 r1 B D (rowsC ksL []) (rowsC ksL []) (duesC (.tup (pi.map .int)) ksL [] []) _ := ⟨⟨a, b, q5 _ _ es, a0, b0, b1⟩, kA, kr0, kr1, kB, upd_same⟩
  refine Ex_cons (Ex_For (Src_list (Ev_loc ⟨rfl, rfl, rfl⟩ rfl rfl ⟨A, kThree, rfl, W.kA, fun i st => And5 (∃ sa sb : List Ch, And5 (sa.length = i) (sb.length = i) (∀ x ∈ sa, chOk x = true) (∀ x ∈ sb, chOk x = true) (Own s A r0 r1 B D (rowsC ksL sa) (rowsC ksL sb) (duesC (.tup (pi.map .int)) ksL sa sb) st.hp)) (st.loc "rows" = some (.ref B)) (st.loc "due" = some (.ref D)) (st.loc "path" = some (.tup (pi.map .int))) (st.loc "source" = some (.ref s)),
    ⟨⟨[], [], rfl, rfl, by simp, by simp, W⟩, rfl, rfl, rfl, rfl⟩, fun i st hi ⟨⟨sa, sb, la, lb, oa, ob, W⟩, e1, e2, e3, e4⟩ => ⟨W.kA, ?_⟩, fun st ⟨⟨sa, sb, la, lb, oa, ob, W⟩, e1, e2, e3, e4⟩ => ⟨W.kA, ?_⟩⟩)))
  · have hi : i < 3 := hi
    refine Un1_of (kThree_at hi) ?_
    refine Un1_Tuple ?_
    refine UnL_cons ?_
    refine Un1_Name ?_
    refine Un_loc ⟨rfl, rfl, rfl⟩ rfl ?_
    refine UnL_cons ?_
    refine Un1_Name ?_
    refine Un_loc ⟨rfl, rfl, rfl⟩ rfl ?_
    refine UnL_cons ?_
    refine Un1_Name ?_
    refine Un_loc ⟨rfl, rfl, rfl⟩ rfl ?_
    refine UnL_nil ?_
    refine Ex_cons ?_
    refine Ex_Assign ?_
    refine Ev_List ?_
    refine Evs_cons ?_
    refine Ev_none ?_
    refine Evs_cons ?_
    refine Ev_Tuple ?_
    refine Evs_cons ?_
    refine Ev_loc ⟨rfl, rfl, rfl⟩ rfl rfl ?_
    refine Evs_cons ?_
    refine Ev_str ?_
    refine Evs_nil ?_
    refine ⟨by simp, ?_⟩
    refine Evs_cons ?_
    refine Ev_Tuple ?_
    refine Evs_cons ?_
    refine Ev_loc ⟨rfl, rfl, rfl⟩ rfl rfl ?_
    refine Evs_cons ?_
    refine Ev_str ?_
    refine Evs_nil ?_
    refine ⟨by simp, ?_⟩
    refine Evs_cons ?_
    refine Ev_Tuple ?_
    refine Evs_cons ?_
    refine Ev_loc ⟨rfl, rfl, rfl⟩ rfl rfl ?_
    refine Evs_cons ?_
    refine Ev_str ?_
    refine Evs_nil ?_
    refine ⟨by simp, ?_⟩
    refine Evs_nil ?_
    refine ⟨by simp, fun E hE => ?_⟩
    refine Un_cell ⟨rfl, rfl, rfl⟩ rfl rfl (by exact .head _) (fun y e => by
      rcases cells2 e with ⟨q, _⟩ | ⟨_, q⟩
      · exact q
      · exact absurd q (Nat.succ_ne_self (L + 1))) ?_
    have hE' : st.hp E = none := hE
    have sE : s ≠ E := by obtain ⟨_, _, e, _⟩ := W.src; exact ne_at e hE'
    have W1 := W.grow (Grow.new (o := .list ((someOf i).map chAV)) hE')
    refine Ex_cons (Ex_AssignComp (xs := ["source", "some"]) ⟨rfl, rfl, rfl⟩ (Src_range ⟨rfl, rfl, rfl⟩ rfl (g_range hK) (Ev_int ⟨2, rfl, by decide, by decide, fun C hC hCL => ⟨fun j acc st' => And3 (And3 (Own s A r0 r1 B D (rowsC ksL sa) (rowsC ksL sb) (duesC (.tup (pi.map .int)) ksL sa sb) st'.hp) (st'.hp E = some (.list ((someOf i).map chAV))) (∃ cs : List Ch, And3 (acc = cs.map chAV) (cs.length = j) (∀ x ∈ cs, chOk x = true))) (st'.loc "source" = some (.ref s)) (st'.loc "some" = some (.ref E)),
      ⟨⟨W1, upd_same, [], rfl, rfl, by simp⟩, e4, rfl⟩, fun j acc st' hj ⟨⟨W, qE, cs, e5, e6, e7⟩, d1, d2⟩ => ⟨trivial, ?_⟩, fun acc st' ⟨⟨W, qE, cs, e5, e6, e7⟩, d1, d2⟩ => ⟨trivial, fun G hG => ?_⟩⟩⟩)) (hcl := by
        intro p hp
        rcases List.mem_cons.mp hp with rfl | hp
        · rfl
        · rcases List.mem_cons.mp hp with rfl | hp
          · rfl
          · cases hp) (hxs := by
        intro x hx
        rcases List.mem_cons.mp hx with rfl | hx
        · exact ⟨rfl, rfl, rfl⟩
        · rcases List.mem_cons.mp hx with rfl | hx
          · exact ⟨rfl, rfl, rfl⟩
          · cases hx))
    · refine Un1_Name ?_
      refine Un_loc ⟨rfl, rfl, rfl⟩ rfl ?_
      refine Ev_CallF ⟨rfl, rfl, rfl⟩ rfl (g__law_one hK) (keep_173 hK) ?_
      refine Evs_cons ?_
      refine Ev_cell ⟨rfl, rfl, rfl⟩ rfl d1 ?_
      refine Evs_cons ?_
      refine Ev_cell ⟨rfl, rfl, rfl⟩ rfl d2 ?_
      refine Evs_nil ?_
      refine one_ hK W.src qE sE (by simp [someOf]) (by simp [someOf]) fun r hr hp' g S' => ?_
      have hr' : r < (someOf i).length := by rw [List.length_map] at hr; exact hr
      refine ⟨⟨W.draw X g S', g _ _ (by simpa using sE.symm) qE, cs ++ [(someOf i)[r]], ?_, by rw [List.length_append, e6]; rfl, fun x hx => ?_⟩, d1, d2⟩
      · show acc ++ [_] = _
        rw [e5, List.map_append, List.getElem_map]; rfl
      · rcases List.mem_append.mp hx with hx | hx
        · exact e7 x hx
        · rw [List.mem_singleton.mp hx]; exact some_ok i _ (List.getElem_mem hr')
    obtain ⟨ca, cb, rfl⟩ : ∃ ca cb, cs = [ca, cb] := by
      match cs, e6 with
      | [ca, cb], _ => exact ⟨ca, cb, rfl⟩
    have oca := e7 ca (by simp)
    have ocb := e7 cb (by simp)
    subst e5
    have W2 := W.grow (Grow.new (o := .list [chAV ca, chAV cb]) hG)
    have qG : upd st'.hp G (.list [chAV ca, chAV cb]) G = some (.list [chAV ca, chAV cb]) := upd_same
    have G0 : G ≠ r0 := (ne_at W.k0 hG).symm
    have G1 : G ≠ r1 := (ne_at W.k1 hG).symm
    have GD : G ≠ D := (ne_at W.kD hG).symm
    have lra := rowsC_len ksL sa
    have lrb := rowsC_len ksL sb
    have pairAt : ∀ j : Nat, j < 2 → [chAV ca, chAV cb][j]? = some (chAV (if j = 0 then ca else cb)) := fun j hj => by
      match j, hj with
      | 0, _ => rfl
      | 1, _ => rfl
    have rowsAt : ∀ j : Nat, j < 2 → [AV.ref r0, AV.ref r1][j]? = some (.ref (if j = 0 then r0 else r1)) := fun j hj => by
      match j, hj with
      | 0, _ => rfl
      | 1, _ => rfl
    -- the two sides
    refine Ex_cons (Ex.mono (k := fun fl st₂ => And8 (fl = .next) (Own s A r0 r1 B D (rowsC ksL sa ++ rowC (ksL.getD i []) ca) (rowsC ksL sb ++ rowC (ksL.getD i []) cb) (duesC (.tup (pi.map .int)) ksL sa sb) st₂.hp ∧ st₂.hp G = some (.list [chAV ca, chAV cb])) (st₂.loc "rows" = some (.ref B)) (st₂.loc "due" = some (.ref D)) (st₂.loc "path" = some (.tup (pi.map .int))) (st₂.loc "source" = some (.ref s)) (st₂.loc "pair" = some (.ref G)) (st₂.loc "key" = some (aS (ksL.getD i [])))) ?_ ?_)
    · refine Ex_For (Src_range ⟨rfl, rfl, rfl⟩ rfl (g_range hK) (Ev_int ⟨2, rfl, by decide, fun j st₂ => And7 (Own s A r0 r1 B D (ra_ (rowsC ksL sa) (rowsC ksL sa ++ rowC (ksL.getD i []) ca) j) (rb_ (rowsC ksL sb) (rowsC ksL sb ++ rowC (ksL.getD i []) cb) j) (duesC (.tup (pi.map .int)) ksL sa sb) st₂.hp ∧ st₂.hp G = some (.list [chAV ca, chAV cb])) (st₂.loc "rows" = some (.ref B)) (st₂.loc "due" = some (.ref D)) (st₂.loc "path" = some (.tup (pi.map .int))) (st₂.loc "source" = some (.ref s)) (st₂.loc "pair" = some (.ref G)) (st₂.loc "key" = some (aS (ksL.getD i []))),
        ⟨⟨W2, qG⟩, e1, e2, e3, e4, rfl, rfl⟩, fun j st₂ hj ⟨⟨V, qG⟩, c1, c2, c3, c4, c5, c6⟩ => ⟨trivial, ?_⟩, fun st₂ ⟨⟨V, qG⟩, c1, c2, c3, c4, c5, c6⟩ => ⟨trivial, ⟨rfl, ⟨V, qG⟩, c1, c2, c3, c4, c5, c6⟩⟩⟩))
      have X0 : rowsC ksL sa ++ rowC (ksL.getD i []) none = rowsC ksL sa := List.append_nil _
      have X1 : rowsC ksL sb ++ rowC (ksL.getD i []) none = rowsC ksL sb := List.append_nil _
      rcases (show j = 0 ∨ j = 1 by omega) with rfl | rfl
      · refine Un1_Name ?_
        refine Un_loc ⟨rfl, rfl, rfl⟩ rfl ?_
        refine Ex_cons ?_
        refine Ex_If ?_
        refine Tst_Compare ?_
        refine Ev_Sub ?_
        refine Ev_loc ⟨rfl, rfl, rfl⟩ rfl c5 ?_
        refine Ev_loc ⟨rfl, rfl, rfl⟩ rfl rfl ?_
        refine Op_subL (a := chAV ca) qG (by decide) rfl ?_
        refine Ev_none ?_
        refine Op_isNotNone ?_
        cases ca with
        | none =>
          rw [X0] at *
          exact ⟨_, rfl, fun hb => (by cases hb), fun _ => Ex_nil (Ex_nil ⟨⟨V, qG⟩, c1, c2, c3, c4, c5, c6⟩)⟩
        | some nv =>
          refine ⟨_, rfl, fun _ => ?_, fun hb => by cases hb⟩
          refine Ex_cons (Ex_Expr (Ev_Meth (Ev_Sub (Ev_loc ⟨rfl, rfl, rfl⟩ rfl c1 (Ev_loc ⟨rfl, rfl, rfl⟩ rfl rfl (Op_subL (a := .ref r0) V.kB (by decide) rfl ⟨_, Mth_append V.k0, fun h _ => plainF_keeps rfl h, ?_⟩))))))
          refine Evs_cons ?_
          refine Ev_BinOp ?_
          refine Ev_Tuple ?_
          refine Evs_cons ?_
          refine Ev_loc ⟨rfl, rfl, rfl⟩ rfl c6 ?_
          refine Evs_nil ?_
          refine ⟨by simp, ?_⟩
          refine Ev_Sub ?_
          refine Ev_loc ⟨rfl, rfl, rfl⟩ rfl c5 ?_
          refine Ev_loc ⟨rfl, rfl, rfl⟩ rfl rfl ?_
          refine Op_subL (a := chAV (some nv)) qG (by decide) rfl ?_
          refine Op_addT (by simp) ?_
          refine Evs_nil ?_
          refine Op_append V.k0 (by rw [List.length_map]; show (rowsC ksL sa).length < 100000; omega) ?_
          refine ⟨rfl, Ex_nil (Ex_nil ⟨⟨?_, upd_off qG G0⟩, c1, c2, c3, c4, c5, c6⟩)⟩
          have := V.put0 X (ra' := rowsC ksL sa ++ rowC (ksL.getD i []) (some nv))
          rw [List.map_append] at this
          exact this
      · refine Un1_Name ?_
        refine Un_loc ⟨rfl, rfl, rfl⟩ rfl ?_
        refine Ex_cons ?_
        refine Ex_If ?_
        refine Tst_Compare ?_
        refine Ev_Sub ?_
        refine Ev_loc ⟨rfl, rfl, rfl⟩ rfl c5 ?_
        refine Ev_loc ⟨rfl, rfl, rfl⟩ rfl rfl ?_
        refine Op_subL (a := chAV cb) qG (by decide) rfl ?_
        refine Ev_none ?_
        refine Op_isNotNone ?_
        cases cb with
        | none =>
          rw [X1] at *
          exact ⟨_, rfl, fun hb => (by cases hb), fun _ => Ex_nil (Ex_nil ⟨⟨V, qG⟩, c1, c2, c3, c4, c5, c6⟩)⟩
        | some nv =>
          refine ⟨_, rfl, fun _ => ?_, fun hb => by cases hb⟩
          refine Ex_cons (Ex_Expr (Ev_Meth (Ev_Sub (Ev_loc ⟨rfl, rfl, rfl⟩ rfl c1 (Ev_loc ⟨rfl, rfl, rfl⟩ rfl rfl (Op_subL (a := .ref r1) V.kB (by decide) rfl ⟨_, Mth_append V.k1, fun h _ => plainF_keeps rfl h, ?_⟩))))))
          refine Evs_cons ?_
          refine Ev_BinOp ?_
          refine Ev_Tuple ?_
          refine Evs_cons ?_
          refine Ev_loc ⟨rfl, rfl, rfl⟩ rfl c6 ?_
          refine Evs_nil ?_
          refine ⟨by simp, ?_⟩
          refine Ev_Sub ?_
          refine Ev_loc ⟨rfl, rfl, rfl⟩ rfl c5 ?_
          refine Ev_loc ⟨rfl, rfl, rfl⟩ rfl rfl ?_
          refine Op_subL (a := chAV (some nv)) qG (by decide) rfl ?_
          refine Op_addT (by simp) ?_
          refine Evs_nil ?_
          refine Op_append V.k1 (by rw [List.length_map]; show (rowsC ksL sb).length < 100000; omega) ?_
          refine ⟨rfl, Ex_nil (Ex_nil ⟨⟨?_, upd_off qG G1⟩, c1, c2, c3, c4, c5, c6⟩)⟩
          have := V.put1 X (rb' := rowsC ksL sb ++ rowC (ksL.getD i []) (some nv))
          rw [List.map_append] at this
          exact this
    rintro fl st₂ ⟨rfl, ⟨V, qG⟩, c1, c2, c3, c4, c5, c6⟩
    have dS := duesC_snoc (.tup (pi.map .int)) hi sa sb ca cb la lb
    have rA := rowsC_snoc hi sa ca la
    have rB := rowsC_snoc hi sb cb lb
    have ld := duesC_len (.tup (pi.map .int)) ksL sa sb
    have l3 : ksL.length = 3 := rfl
    have noks : (∀ x ∈ sa ++ [ca], chOk x = true) ∧ ∀ x ∈ sb ++ [cb], chOk x = true := ⟨fun x hx => (List.mem_append.mp hx).elim (oa x) (fun h => by rw [List.mem_singleton.mp h]; exact oca), fun x hx => (List.mem_append.mp hx).elim (ob x) (fun h => by rw [List.mem_singleton.mp h]; exact ocb)⟩
    rw [← rA, ← rB] at V
    refine Ex_cons ?_
    refine Ex_If ?_
    refine Tst_Compare ?_
    refine Ev_Sub ?_
    refine Ev_loc ⟨rfl, rfl, rfl⟩ rfl c5 ?_
    refine Ev_int ?_
    refine Op_subL (a := chAV ca) qG (by decide) rfl ?_
    refine Ev_Sub ?_
    refine Ev_loc ⟨rfl, rfl, rfl⟩ rfl c5 ?_
    refine Ev_int ?_
    refine Op_subL (a := chAV cb) qG (by decide) rfl ?_
    refine Op_ne (chAV_ok oca 9) (chAV_ok ocb 9) ?_
    refine ⟨_, rfl, fun hb => ?_, fun hb => ?_⟩
    · have hne : ¬ aeq (chAV ca) (chAV cb) = true := by intro q; rw [q] at hb; cases hb
      have eD : dueC (.tup (pi.map .int)) (ksL.getD i []) ca cb = _ := if_neg hne
      rw [eD] at dS
      refine Ex_cons (Ex_Expr (Ev_Meth (Ev_loc ⟨rfl, rfl, rfl⟩ rfl c2 ⟨_, Mth_append V.kD, fun h _ => plainF_keeps rfl h, ?_⟩)))
      refine Evs_cons ?_
      refine Ev_BinOp ?_
      refine Ev_Tuple ?_
      refine Evs_cons ?_
      refine Ev_str ?_
      refine Evs_cons ?_
      refine Ev_loc ⟨rfl, rfl, rfl⟩ rfl c3 ?_
      refine Evs_cons ?_
      refine Ev_loc ⟨rfl, rfl, rfl⟩ rfl c6 ?_
      refine Evs_nil ?_
      refine ⟨by simp, ?_⟩
      refine Ev_IfExp ?_
      refine Tst_Compare ?_
      refine Ev_Sub ?_
      refine Ev_loc ⟨rfl, rfl, rfl⟩ rfl c5 ?_
      refine Ev_int ?_
      refine Op_subL (a := chAV cb) qG (by decide) rfl ?_
      refine Ev_none ?_
      refine Op_isNone ?_
      cases cb with
      | none =>
        refine ⟨_, rfl, fun _ => ?_, fun hb => by cases hb⟩
        refine Ev_Tuple ?_
        refine Evs_cons ?_
        refine Ev_none ?_
        refine Evs_cons ?_
        refine Ev_none ?_
        refine Evs_nil ?_
        refine ⟨by simp, Op_addT (by simp) (Evs_nil (Op_append V.kD (by omega) ⟨rfl, Ex_nil (Ex_nil ?_)⟩))⟩
        refine ⟨⟨sa ++ [ca], sb ++ [none], by rw [List.length_append, la]; rfl, by rw [List.length_append, lb]; rfl, noks.1, noks.2, ?_⟩, c1, c2, c3, c4⟩
        rw [dS]
        exact V.putD X
      | some nv =>
        refine ⟨_, rfl, fun hb => (by cases hb), fun _ => ?_⟩
        refine Ev_Sub ?_
        refine Ev_loc ⟨rfl, rfl, rfl⟩ rfl c5 ?_
        refine Ev_int ?_
        refine Op_subL (a := chAV (some nv)) qG (by decide) rfl ?_
        refine Op_addT (by simp) (Evs_nil (Op_append V.kD (by omega) ⟨rfl, Ex_nil (Ex_nil ?_)⟩))
        refine ⟨⟨sa ++ [ca], sb ++ [some nv], by rw [List.length_append, la]; rfl, by rw [List.length_append, lb]; rfl, noks.1, noks.2, ?_⟩, c1, c2, c3, c4⟩
        rw [dS]
        exact V.putD X
    · have hne : aeq (chAV ca) (chAV cb) = true := by cases q : aeq (chAV ca) (chAV cb) <;> rw [q] at hb <;> first | rfl | cases hb
      have eD : dueC (.tup (pi.map .int)) (ksL.getD i []) ca cb = [] := if_pos hne
      rw [eD, List.append_nil] at dS
      refine Ex_nil (Ex_nil ⟨⟨sa ++ [ca], sb ++ [cb], by rw [List.length_append, la]; rfl, by rw [List.length_append, lb]; rfl, noks.1, noks.2, ?_⟩, c1, c2, c3, c4⟩)
      rw [dS]
      exact V
  · replace la : sa.length = 3 := la
    replace lb : sb.length = 3 := lb
    obtain ⟨a0, a1, a2, rfl⟩ : ∃ a0 a1 a2, sa = [a0, a1, a2] := by
      match sa, la with
      | [a0, a1, a2], _ => exact ⟨a0, a1, a2, rfl⟩
    obtain ⟨b0, b1, b2, rfl⟩ : ∃ b0 b1 b2, sb = [b0, b1, b2] := by
      match sb, lb with
      | [b0, b1, b2], _ => exact ⟨b0, b1, b2, rfl⟩
    obtain ⟨uk1, uk2⟩ := own_small a0 a1 a2 b0 b1 b2
    have lra := rowsC_len ksL [a0, a1, a2]
    have lrb := rowsC_len ksL [b0, b1, b2]
    simp only [List.length_cons, List.length_nil] at lra lrb
    refine Ex_cons ?_
    refine Ex_If ?_
    refine Tst_Compare ?_
    refine Ev_CallF ⟨rfl, rfl, rfl⟩ rfl (g_own_edits hK) (keep_96 hK) ?_
    refine Evs_cons ?_
    refine Ev_CallF ⟨rfl, rfl, rfl⟩ rfl (g__law_element hK) (keep_180 hK) ?_
    refine Evs_cons ?_
    refine Ev_str ?_
    refine Evs_cons ?_
    refine Ev_Sub ?_
    refine Ev_loc ⟨rfl, rfl, rfl⟩ rfl e1 ?_
    refine Ev_int ?_
    refine Op_subL (a := .ref r0) W.kB (by decide) rfl ?_
    refine Evs_cons ?_
    refine Ev_List ?_
    refine Evs_nil ?_
    refine ⟨by simp, fun E1 hE1 => ?_⟩
    refine Evs_nil ?_
    have W1 := W.grow (Grow.new (o := .list []) hE1)
    refine element_ hK W1.k0 upd_same ?_
    refine Evs_cons ?_
    refine Ev_CallF ⟨rfl, rfl, rfl⟩ rfl (g__law_element hK) (keep_180 hK) ?_
    refine Evs_cons ?_
    refine Ev_str ?_
    refine Evs_cons ?_
    refine Ev_Sub ?_
    refine Ev_loc ⟨rfl, rfl, rfl⟩ rfl e1 ?_
    refine Ev_int ?_
    refine Op_subL (a := .ref r1) W1.kB (by decide) rfl ?_
    refine Evs_cons ?_
    refine Ev_List ?_
    refine Evs_nil ?_
    refine ⟨by simp, fun E2 hE2 => ?_⟩
    refine Evs_nil ?_
    have W2 := W1.grow (Grow.new (o := .list []) hE2)
    refine element_ hK W2.k1 upd_same ?_
    refine Evs_cons ?_
    refine Ev_loc ⟨rfl, rfl, rfl⟩ rfl e3 ?_
    refine Evs_nil ?_
    refine own_edits_ hK (ra := rowsC ksL [a0, a1, a2]) (rb := rowsC ksL [b0, b1, b2]) (by simp [elemL]) (by simp [elemL]) rfl rfl rfl rfl em_ok em_ok (by omega) (by omega) (rowsC_ok oa) (rowsC_ok ob) uk1 uk2 fun R hp1 g1 R0 eR => ?_
    have ee : edits (rowsC ksL [a0, a1, a2]) (rowsC ksL [b0, b1, b2]) (.str "") (.str "") (.tup (pi.map .int)) = duesC (.tup (pi.map .int)) ksL [a0, a1, a2] [b0, b1, b2] := by
      unfold edits
      rw [own_law, if_pos (by simp [aeq])]; rfl
    rw [ee] at eR
    have W3 := W2.grow g1
    have okD := dues_ok pi ksL [a0, a1, a2] [b0, b1, b2] ksL_ok ob
    refine Ev_loc ⟨rfl, rfl, rfl⟩ rfl e2 (Op_neList eR W3.kD okD okD ⟨_, rfl, fun hb => ?_, fun _ => Ex_nil ?_⟩)
    · rw [aeqs_self (n := 9) okD] at hb; cases hb
    refine Ex_cons (Ex_AssignTuple (Ev_ListComp (xs := ["source"]) ⟨rfl, rfl, rfl⟩ (Src_range ⟨rfl, rfl, rfl⟩ rfl (g_range hK) (Ev_int ⟨2, rfl, by decide, by decide, fun C hC hCL => ⟨fun j acc st' => (SrcL st'.hp s ∧ ∃ vs : List Str, And3 (acc = vs.map (fun v => AV.tup (textL v))) (vs.length = j) (∀ v ∈ vs, PyData.strOk v = true)) ∧ st'.loc "source" = some (.ref s),
      ⟨⟨W3.src, [], rfl, rfl, by simp⟩, e4⟩, fun j acc st' hj ⟨⟨Sj, vs, e5, e6, e7⟩, d1⟩ => ⟨trivial, ?_⟩, fun acc st' ⟨⟨Sj, vs, e5, e6, e7⟩, d1⟩ => ⟨trivial, fun G hG => ?_⟩⟩⟩)) (hcl := by
        intro p hp
        rcases List.mem_cons.mp hp with rfl | hp
        · rfl
        · cases hp) (hxs := by
        intro x hx
        rcases List.mem_cons.mp hx with rfl | hx
        · exact ⟨rfl, rfl, rfl⟩
        · cases hx)))
    · refine Un1_Name ?_
      refine Un_loc ⟨rfl, rfl, rfl⟩ rfl ?_
      refine Ev_Tuple ?_
      refine Evs_cons ?_
      refine Ev_str ?_
      refine Evs_cons ?_
      refine Ev_str ?_
      refine Evs_cons ?_
      refine Ev_CallF ⟨rfl, rfl, rfl⟩ rfl (g__law_one hK) (keep_173 hK) ?_
      refine Evs_cons ?_
      refine Ev_cell ⟨rfl, rfl, rfl⟩ rfl d1 ?_
      refine Evs_cons ?_
      refine Ev_List ?_
      refine Evs_cons ?_
      refine Ev_str ?_
      refine Evs_cons ?_
      refine Ev_str ?_
      refine Evs_cons ?_
      refine Ev_str ?_
      refine Evs_nil ?_
      refine ⟨by simp, fun E hE => ?_⟩
      refine Evs_nil ?_
      obtain ⟨x0, x1, xs, xr, xr2, xr3⟩ := id Sj
      have sE : s ≠ E := ne_at xs hE
      have Sj' : SrcL (upd st'.hp E (.list [.str "x", .str "y", .str ""])) s := ⟨x0, x1, upd_at xs hE, xr, xr2, xr3⟩
      refine one_ hK Sj' upd_same sE (by simp) (by simp) fun r hr hp' g S' => ?_
      obtain ⟨v, ev, ov⟩ : ∃ v : Str, [AV.str "x", AV.str "y", AV.str ""][r] = .str v ∧ PyData.strOk v = true := by
        match r, hr with
        | 0, _ => exact ⟨"x", rfl, by decide +kernel⟩
        | 1, _ => exact ⟨"y", rfl, by decide +kernel⟩
        | 2, _ => exact ⟨"", rfl, by decide +kernel⟩
      rw [ev]
      refine Evs_cons ?_
      refine Ev_Tuple ?_
      refine Evs_nil ?_
      refine ⟨by simp, ?_⟩
      refine Evs_cons ?_
      refine Ev_Tuple ?_
      refine Evs_nil ?_
      refine ⟨by simp, ?_⟩
      refine Evs_nil ?_
      refine ⟨by simp, ⟨S', vs ++ [v], ?_, by rw [List.length_append, e6]; rfl, fun x hx => ?_⟩, d1⟩
      · show acc ++ [_] = _
        rw [e5, List.map_append]; rfl
      · rcases List.mem_append.mp hx with hx | hx
        · exact e7 x hx
        · rw [List.mem_singleton.mp hx]; exact ov
    obtain ⟨v, w, rfl⟩ : ∃ v w, vs = [v, w] := by
      match vs, e6 with
      | [v, w], _ => exact ⟨v, w, rfl⟩
    have ov := e7 v (by simp)
    have oww := e7 w (by simp)
    subst e5
    refine Un1_TupleL2 upd_same ?_
    refine UnL_cons ?_
    refine Un1_Name ?_
    refine Un_loc ⟨rfl, rfl, rfl⟩ rfl ?_
    refine UnL_cons ?_
    refine Un1_Name ?_
    refine Un_loc ⟨rfl, rfl, rfl⟩ rfl ?_
    refine UnL_nil ?_
    refine Ex_cons ?_
    refine Ex_Return ?_
    refine Ev_Compare ?_
    refine Ev_CallF ⟨rfl, rfl, rfl⟩ rfl (g_own_edits hK) (keep_96 hK) ?_
    refine Evs_cons ?_
    refine Ev_loc ⟨rfl, rfl, rfl⟩ rfl rfl ?_
    refine Evs_cons ?_
    refine Ev_loc ⟨rfl, rfl, rfl⟩ rfl rfl ?_
    refine Evs_cons ?_
    refine Ev_loc ⟨rfl, rfl, rfl⟩ rfl e3 ?_
    refine Evs_nil ?_
    have ov' : dOk 10 (.str v) = true := ov
    have ow' : dOk 10 (.str w) = true := oww
    refine own_edits_ hK (ra := []) (rb := []) (x2 := .str v) (y2 := .str w) (by simp [textL]) (by simp [textL]) rfl rfl rfl rfl ov' ow' (by simp) (by simp) rfl rfl (by decide) (fun k hk => by cases hk) fun R2 hp2 g2 R20 eR2 => ?_
    have ee2 : edits [] [] (.str v) (.str w) (.tup (pi.map .int)) = if aeq (.str v) (.str w) = true then [] else [.tup [.str "value", .tup (pi.map .int), .str w]] := by
      unfold edits
      rw [unlike_nil_nil, List.map_nil, List.append_nil]
    rw [ee2] at eR2
    have evw : aeq (.str v) (.str w) = (v == w) := by simp [aeq]
    have okV : ∀ a ∈ [AV.tup [.str "value", .tup (pi.map .int), .str w]], dOk 9 a = true := fun a ha => by
      rw [List.mem_singleton.mp ha]
      have q1 : dOk 8 (.str "value") = true := by decide +kernel
      have q2 : dOk 8 (.str w) = true := oww
      show ([AV.str "value", AV.tup (pi.map AV.int), AV.str w] : List AV).all (dOk 8) = true
      simp only [List.all_cons, List.all_nil, q1, q2, path_ok pi 7, Bool.and_self]
    refine Ev_IfExp ?_
    refine Tst_Compare ?_
    refine Ev_loc ⟨rfl, rfl, rfl⟩ rfl rfl ?_
    refine Ev_loc ⟨rfl, rfl, rfl⟩ rfl rfl ?_
    refine Op_eq (text_ok ov 8) (text_ok oww 8) ?_
    refine ⟨_, rfl, fun hb => ?_, fun hb => ?_⟩
    · rw [text_eq, ← evw] at hb
      rw [if_pos hb] at eR2
      refine Ev_List ?_
      refine Evs_nil ?_
      refine ⟨by simp, fun Z hZ => ?_⟩
      refine Op_eqList (upd_at eR2 hZ) upd_same (by simp) (by simp) ?_
      exact h _
    · rw [text_eq, ← evw] at hb
      rw [if_neg (by rw [hb]; exact Bool.false_ne_true)] at eR2
      refine Ev_List ?_
      refine Evs_cons ?_
      refine Ev_Tuple ?_
      refine Evs_cons ?_
      refine Ev_str ?_
      refine Evs_cons ?_
      refine Ev_loc ⟨rfl, rfl, rfl⟩ rfl e3 ?_
      refine Evs_cons ?_
      refine Ev_Sub ?_
      refine Ev_loc ⟨rfl, rfl, rfl⟩ rfl rfl ?_
      refine Ev_int ?_
      refine Op_subT (a := .str w) (by decide) (by simp [textL]) rfl ?_
      refine Evs_nil ?_
      refine ⟨by simp, ?_⟩
      refine Evs_nil ?_
      refine ⟨by simp, fun Z hZ => ?_⟩
      refine Op_eqList (upd_at eR2 hZ) upd_same okV okV ?_
      rw [aeqs_self (n := 9) okV]
      exact h _
end
end Mu
end
noncomputable section
open PySem PySem.W
set_option Elab.async false
set_option linter.unusedVariables false
set_option maxRecDepth 100000
namespace Mu
abbrev Ms := List (Nat × Nat × Int)
def S : Ms → Nat → Nat → Int
  | [], _, _ => 0
  | (a, b, k) :: r, p, q => (if a < p ∧ b < q then 2 - k else 0) + S r p q
def Kf : Ms → Nat → Nat → Option Int
  | [], _, _ => none
  | (a, b, k) :: r, p, q => if a = p ∧ b = q then some k else Kf r p q
/-- the pairs rise -/
def Inc : Nat → Nat → Ms → Prop
  | _, _, [] => True
  | p, q, (a, b, k) :: r => p ≤ a ∧ q ≤ b ∧ (k = 0 ∨ k = 1) ∧ Inc (a + 1) (b + 1) r
theorem Inc.le : ∀ {ms : Ms} {p q p' q' : Nat}, Inc p q ms → p' ≤ p → q' ≤ q → Inc p' q' ms
  | [], _, _, _, _, _, _, _ => trivial
  | (a, b, k) :: r, _, _, _, _, ⟨h1, h2, h3⟩, hp, hq => ⟨by omega, by omega, h3⟩
theorem S_low : ∀ {ms : Ms} {p0 q0 p q : Nat}, Inc p0 q0 ms → p ≤ p0 ∨ q ≤ q0 → S ms p q = 0
  | [], _, _, _, _, _, _ => rfl
  | (a, b, k) :: r, p0, q0, p, q, ⟨h1, h2, _, h4⟩, hl => by
    unfold S
    rw [S_low h4 (by omega), if_neg (by omega)]; rfl
theorem Kf_low : ∀ {ms : Ms} {p0 q0 p q : Nat}, Inc p0 q0 ms → p < p0 ∨ q < q0 → Kf ms p q = none
  | [], _, _, _, _, _, _ => rfl
  | (a, b, k) :: r, p0, q0, p, q, ⟨h1, h2, _, h4⟩, hl => by
    unfold Kf
    rw [if_neg (by omega), Kf_low h4 (by omega)]
theorem S_nonneg : ∀ {ms : Ms} {p0 q0 : Nat} (p q : Nat), Inc p0 q0 ms → 0 ≤ S ms p q
  | [], _, _, _, _, _ => Int.le_refl _
  | (a, b, k) :: r, p0, q0, p, q, ⟨_, _, h3, h4⟩ => by
    unfold S
    have := S_nonneg p q h4
    split <;> omega
theorem Kf_01 : ∀ {ms : Ms} {p0 q0 p q : Nat} {k : Int}, Inc p0 q0 ms → Kf ms p q = some k → k = 0 ∨ k = 1
  | [], _, _, _, _, _, _, h => by cases h
  | (a, b, k') :: r, p0, q0, p, q, k, ⟨_, _, h3, h4⟩, h => by
    unfold Kf at h
    split at h
    · cases h; exact h3
    · exact Kf_01 h4 h
theorem S_some : ∀ {ms : Ms} {p0 q0 p q : Nat} {k : Int}, Inc p0 q0 ms → Kf ms p q = some k → S ms (p + 1) (q + 1) = S ms p q + (2 - k) ∧ S ms p (q + 1) = S ms p q ∧ S ms (p + 1) q = S ms p q
  | [], _, _, _, _, _, _, h => by cases h
  | (a, b, k') :: r, p0, q0, p, q, k, ⟨_, _, h3, h4⟩, h => by
    unfold Kf at h
    unfold S
    split at h
    · rename_i e
      obtain ⟨rfl, rfl⟩ := e
      cases h
      rw [S_low h4 (p := a + 1) (q := b + 1) (by omega), S_low h4 (p := a) (q := b) (by omega), S_low h4 (p := a) (q := b + 1) (by omega), S_low h4 (p := a + 1) (q := b) (by omega)]
      rw [if_pos (by omega), if_neg (by omega), if_neg (by omega), if_neg (by omega)]
      omega
    · rename_i e
      obtain ⟨i1, i2, i3⟩ := S_some h4 h
      have hp : a + 1 ≤ p ∧ b + 1 ≤ q := by
        by_cases c1 : p < a + 1 ∨ q < b + 1
        · rw [Kf_low h4 c1] at h; cases h
        · omega
      rw [i1, i2, i3, if_pos (by omega), if_pos (by omega), if_pos (by omega), if_pos (by omega)]
      omega
theorem add_max (a x y : Int) : a + max x y = max (a + x) (a + y) := by omega
theorem max_zero_r {x : Int} (h : 0 ≤ x) : x + 0 = max (0 + 0) (x + 0) := by omega
theorem max_zero_l {x : Int} (h : 0 ≤ x) : x + 0 = max (x + 0) (0 + 0) := by omega
theorem save_pos {k : Int} (h : k = 0 ∨ k = 1) : 0 ≤ 2 - k := by omega
theorem S_none : ∀ {ms : Ms} {p0 q0 p q : Nat}, Inc p0 q0 ms → Kf ms p q = none → S ms (p + 1) (q + 1) = max (S ms p (q + 1)) (S ms (p + 1) q)
  | [], _, _, _, _, _, _ => by simp [S]
  | (a, b, k) :: r, p0, q0, p, q, ⟨_, _, h3, h4⟩, h => by
    unfold Kf at h
    unfold S
    split at h
    · cases h
    · rename_i e
      have ih := S_none h4 h
      by_cases pa : p < a
      · rw [if_neg fun c => Nat.not_le_of_lt pa (Nat.le_of_lt_succ c.1), if_neg fun c => Nat.lt_asymm pa c.1, if_neg fun c => Nat.not_le_of_lt pa (Nat.le_of_lt_succ c.1), ih]
        exact add_max _ _ _
      · by_cases qb : q < b
        · rw [if_neg fun c => Nat.not_le_of_lt qb (Nat.le_of_lt_succ c.2), if_neg fun c => Nat.not_le_of_lt qb (Nat.le_of_lt_succ c.2), if_neg fun c => Nat.lt_asymm qb c.2, ih]
          exact add_max _ _ _
        · have pa' := Nat.le_of_not_lt pa
          have qb' := Nat.le_of_not_lt qb
          by_cases c1 : a < p ∧ b < q
          · rw [if_pos ⟨Nat.lt_succ_of_lt c1.1, Nat.lt_succ_of_lt c1.2⟩, if_pos ⟨c1.1, Nat.lt_succ_of_lt c1.2⟩, if_pos ⟨Nat.lt_succ_of_lt c1.1, c1.2⟩, ih]
            exact add_max _ _ _
          · clear ih
            have z : ∀ x y, (x = p + 1 ∧ y = q + 1) ∨ (x = p ∧ y = q + 1) ∨ (x = p + 1 ∧ y = q) → S r x y = 0 := fun x y hxy => S_low h4 (by clear h e pa qb h3; omega)
            rw [z _ _ (.inl ⟨rfl, rfl⟩), z _ _ (.inr (.inl ⟨rfl, rfl⟩)), z _ _ (.inr (.inr ⟨rfl, rfl⟩)), if_pos ⟨Nat.lt_succ_of_le pa', Nat.lt_succ_of_le qb'⟩]
            have s := save_pos h3
            by_cases c3 : a = p
            · have c4 : b < q := Nat.lt_of_le_of_ne qb' fun c => e ⟨c3, c⟩
              rw [if_neg fun c => Nat.ne_of_lt c.1 c3, if_pos ⟨Nat.lt_succ_of_le pa', c4⟩]
              exact max_zero_r s
            · have c4 : a < p := Nat.lt_of_le_of_ne pa' c3
              rw [if_pos ⟨c4, Nat.lt_succ_of_le qb'⟩, if_neg fun c => c1 ⟨c4, c.2⟩]
              exact max_zero_l s
theorem T_eq {ms : Ms} (hI : Inc 0 0 ms) : ∀ p q : Nat, T (Kf ms) p q = p + q - S ms p q
  | 0, q => by rw [T_0, S_low hI (by omega)]; omega
  | p + 1, 0 => by rw [T_p0, S_low hI (by omega)]; omega
  | p + 1, q + 1 => by
    have i1 := T_eq hI p (q + 1)
    have i2 := T_eq hI (p + 1) q
    have i3 := T_eq hI p q
    rw [T_ss, i1, i2, i3]
    cases hk : Kf ms p q with
    | none =>
      have := S_none hI hk
      unfold tstep
      simp only
      rw [this]
      clear this hk i1 i2 i3 hI
      omega
    | some k =>
      obtain ⟨j1, j2, j3⟩ := S_some hI hk
      have k01 := Kf_01 hI hk
      unfold tstep
      simp only
      rw [j1, j2, j3]
      clear hk i1 i2 i3 j1 j2 j3 hI
      rw [if_pos (by omega)]
      omega
/-- an unmatched row, an unmatched column -/
theorem S_row : ∀ {ms : Ms} {a : Nat} (q : Nat), (∀ b, Kf ms a b = none) → S ms (a + 1) q = S ms a q
  | [], _, _, _ => rfl
  | (a', b', k) :: r, a, q, h => by
    have h0 := h b'
    unfold Kf at h0
    have hne : a' ≠ a := by
      intro e; rw [if_pos ⟨e, rfl⟩] at h0; cases h0
    unfold S
    rw [S_row q fun b => by
      have := h b
      unfold Kf at this
      rwa [if_neg (by omega)] at this]
    by_cases c : a' < a ∧ b' < q
    · rw [if_pos (by omega), if_pos c]
    · rw [if_neg (by omega), if_neg c]
theorem S_pair : ∀ {ms : Ms} {p0 q0 a b : Nat} {k : Int} (q : Nat), Inc p0 q0 ms → Kf ms a b = some k → b < q → S ms (a + 1) q = S ms a q + (2 - k)
  | [], _, _, _, _, _, _, _, h, _ => by cases h
  | (a', b', k') :: r, p0, q0, a, b, k, q, ⟨_, _, h3, h4⟩, h, hq => by
    unfold Kf at h
    unfold S
    split at h
    · rename_i e
      obtain ⟨rfl, rfl⟩ := e
      cases h
      rw [S_low h4 (p := a' + 1) (by omega), S_low h4 (p := a') (by omega), if_pos (by omega), if_neg (by omega)]
      omega
    · rw [S_pair q h4 h hq]
      have hp : a' + 1 ≤ a ∧ b' + 1 ≤ b := by
        by_cases c1 : a < a' + 1 ∨ b < b' + 1
        · rw [Kf_low h4 c1] at h; cases h
        · omega
      rw [if_pos (by omega), if_pos (by omega)]
      omega
end Mu
end
noncomputable section
open PySem PySem.W
set_option Elab.async false
set_option linter.unusedVariables false
set_option maxRecDepth 100000
namespace Mu
def lo (v : Int) : Nat := if v ∈ [(1 : Int), 3, 4] then 1 else 0
def lt_ (v : Int) : Nat := if 1 < v then 1 else 0
def msOf : Nat → Nat → List (Str × Int) → Ms
  | _, _, [] => []
  | i, j, p :: r => (if p.2 ∈ [(3 : Int), 4] then [(i, j, if p.2 = 3 then (0 : Int) else 1)] else []) ++ msOf (i + lo p.2) (j + lt_ p.2) r
theorem msOf_cons (i j : Nat) (p : Str × Int) (r : List (Str × Int)) : msOf i j (p :: r) = (if p.2 ∈ [(3 : Int), 4] then [(i, j, if p.2 = 3 then (0 : Int) else 1)] else []) ++ msOf (i + lo p.2) (j + lt_ p.2) r := by rw [msOf]
theorem oursL_cons (p : Str × Int) (r : List (Str × Int)) : oursL (p :: r) = (if p.2 ∈ [(1 : Int), 3, 4] then ([(p.1, "1")] : List Lf) else []) ++ oursL r := by
  unfold oursL
  by_cases h : p.2 ∈ [(1 : Int), 3, 4]
  · rw [if_pos h, List.filter_cons, if_pos (decide_eq_true h)]; rfl
  · rw [if_neg h, List.filter_cons, if_neg (by rw [decide_eq_false h]; exact Bool.false_ne_true)]; rfl
theorem theirsL_cons (p : Str × Int) (r : List (Str × Int)) : theirsL (p :: r) = (if 1 < p.2 then ([(p.1, if p.2 = 3 then "1" else "2")] : List Lf) else []) ++ theirsL r := by
  unfold theirsL
  by_cases h : 1 < p.2
  · rw [if_pos h, List.filter_cons, if_pos (decide_eq_true h)]; rfl
  · rw [if_neg h, List.filter_cons, if_neg (by rw [decide_eq_false h]; exact Bool.false_ne_true)]; rfl
theorem oursL_app (a b : List (Str × Int)) : oursL (a ++ b) = oursL a ++ oursL b := by unfold oursL; rw [List.filter_append, List.map_append]
theorem theirsL_app (a b : List (Str × Int)) : theirsL (a ++ b) = theirsL a ++ theirsL b := by unfold theirsL; rw [List.filter_append, List.map_append]
theorem ours_name {r : List (Str × Int)} {x : Lf} (h : x ∈ oursL r) : x.1 ∈ r.map (·.1) := by
  obtain ⟨p, hp, rfl⟩ := List.mem_map.mp h
  exact List.mem_map.mpr ⟨p, (List.mem_filter.mp hp).1, rfl⟩
theorem theirs_name {r : List (Str × Int)} {x : Lf} (h : x ∈ theirsL r) : x.1 ∈ r.map (·.1) := by
  obtain ⟨p, hp, rfl⟩ := List.mem_map.mp h
  exact List.mem_map.mpr ⟨p, (List.mem_filter.mp hp).1, rfl⟩
theorem v_cases {v : Int} (h : v ≤ 4) : (lo v = 0 ∧ lt_ v = 0 ∧ ¬ v ∈ [(1 : Int), 3, 4] ∧ ¬ 1 < v ∧ ¬ v ∈ [(3 : Int), 4] ∧ v < 1) ∨ v = 1 ∨ v = 2 ∨ v = 3 ∨ v = 4 := by
  by_cases c : v < 1
  · left
    have a : ¬ v ∈ [(1 : Int), 3, 4] := by simp; omega
    have b : ¬ 1 < v := by omega
    have d : ¬ v ∈ [(3 : Int), 4] := by simp; omega
    exact ⟨if_neg a, if_neg b, a, b, d, c⟩
  · right; omega
def VOk (ps : List (Str × Int)) : Prop := ∀ p ∈ ps, p.2 ≤ 4
theorem ms_inc : ∀ (ps : List (Str × Int)) (i j : Nat), VOk ps → Inc i j (msOf i j ps)
  | [], _, _, _ => trivial
  | p :: r, i, j, h => by
    have ih := ms_inc r (i + lo p.2) (j + lt_ p.2) fun x hx => h x (List.mem_cons_of_mem _ hx)
    rw [msOf_cons]
    rcases v_cases (h p (List.mem_cons_self ..)) with ⟨_, _, _, _, e, _⟩ | e | e | e | e
    · rw [if_neg e]; exact ih.le (by omega) (by omega)
    · rw [e] at ih ⊢; exact ih.le (by omega) (by omega)
    · rw [e] at ih ⊢; exact ih.le (by omega) (by omega)
    · rw [e] at ih ⊢; exact ⟨Nat.le_refl _, Nat.le_refl _, .inl rfl, ih⟩
    · rw [e] at ih ⊢; exact ⟨Nat.le_refl _, Nat.le_refl _, .inr rfl, ih⟩
theorem KL_no1 {a : Lf} {l1 l2 : List Lf} (h : ∀ b ∈ l2, b.1 ≠ a.1) (q : Nat) : KL (a :: l1) l2 0 q = none := by
  unfold KL
  cases e : l2[q]? with
  | none => rfl
  | some b => exact if_neg fun x => h b (List.mem_of_getElem? e) x.symm
theorem KL_no2 {b : Lf} {l1 l2 : List Lf} (h : ∀ a ∈ l1, a.1 ≠ b.1) (p : Nat) : KL l1 (b :: l2) p 0 = none := by
  unfold KL
  cases e : l1[p]? with
  | none => rfl
  | some a => exact if_neg fun x => h a (List.mem_of_getElem? e) x
theorem KL_ms : ∀ (ps : List (Str × Int)) (i j p q : Nat), VOk ps → (ps.map (·.1)).Nodup → KL (oursL ps) (theirsL ps) p q = Kf (msOf i j ps) (p + i) (q + j)
  | [], i, j, p, q, _, _ => rfl
  | x :: r, i, j, p, q, h, hn => by
    have hr : VOk r := fun y hy => h y (List.mem_cons_of_mem _ hy)
    rw [List.map_cons, List.nodup_cons] at hn
    have ih := fun p q => KL_ms r (i + lo x.2) (j + lt_ x.2) p q hr hn.2
    have inc := ms_inc r (i + lo x.2) (j + lt_ x.2) hr
    have nt : ∀ b ∈ theirsL r, b.1 ≠ x.1 := fun b hb e => hn.1 (e ▸ theirs_name hb)
    have no : ∀ b ∈ oursL r, b.1 ≠ x.1 := fun b hb e => hn.1 (e ▸ ours_name hb)
    rw [oursL_cons, theirsL_cons]
    rw [msOf_cons]
    rcases v_cases (h x (List.mem_cons_self ..)) with ⟨e1, e2, e3, e4, e5, _⟩ | e | e | e | e
    · rw [e1, e2] at ih ⊢
      rw [if_neg e3, if_neg e4, if_neg e5]
      exact ih p q
    · rw [e] at ih inc ⊢
      replace inc : Inc (i + 1) (j + 0) (msOf (i + 1) (j + 0) r) := inc
      rw [if_pos (by decide), if_neg (by decide), if_neg (by decide)]
      show KL ((x.1, "1") :: oursL r) (theirsL r) p q = Kf (msOf (i + 1) (j + 0) r) (p + i) (q + j)
      match p with
      | 0 => rw [KL_no1 nt, Kf_low inc (.inl (by show 0 + i < i + 1; omega))]
      | p + 1 =>
        have := ih p q
        rw [show p + 1 + i = p + (i + lo 1) from by show p + 1 + i = p + (i + 1); omega]
        exact this
    · rw [e] at ih inc ⊢
      replace inc : Inc (i + 0) (j + 1) (msOf (i + 0) (j + 1) r) := inc
      rw [if_neg (by decide), if_pos (by decide), if_neg (by decide)]
      show KL (oursL r) ((x.1, _) :: theirsL r) p q = Kf (msOf (i + 0) (j + 1) r) (p + i) (q + j)
      match q with
      | 0 => rw [KL_no2 no, Kf_low inc (.inr (by show 0 + j < j + 1; omega))]
      | q + 1 =>
        have := ih p q
        rw [show q + 1 + j = q + (j + lt_ 2) from by show q + 1 + j = q + (j + 1); omega]
        exact this
    · rw [e] at ih inc ⊢
      replace inc : Inc (i + 1) (j + 1) (msOf (i + 1) (j + 1) r) := inc
      rw [if_pos (by decide), if_pos (by decide), if_pos (by decide)]
      show KL ((x.1, "1") :: oursL r) ((x.1, "1") :: theirsL r) p q = Kf ((i, j, 0) :: msOf (i + 1) (j + 1) r) (p + i) (q + j)
      unfold Kf
      match p, q with
      | 0, 0 => rw [if_pos ⟨by omega, by omega⟩]; show (if x.1 = x.1 then some (if ("1" : Str) = "1" then (0 : Int) else 1) else none) = _; rw [if_pos rfl, if_pos rfl]
      | 0, q + 1 => rw [if_neg (by omega), Kf_low inc (.inl (by show 0 + i < i + 1; omega))]; exact KL_no1 (a := (x.1, "1")) (l1 := oursL r) nt q
      | p + 1, 0 => rw [if_neg (by omega), Kf_low inc (.inr (by show 0 + j < j + 1; omega))]; exact KL_no2 (b := (x.1, "1")) (l2 := theirsL r) no p
      | p + 1, q + 1 =>
        rw [if_neg (by omega)]
        have := ih p q
        rw [show p + 1 + i = p + (i + lo 3) from by show p + 1 + i = p + (i + 1); omega, show q + 1 + j = q + (j + lt_ 3) from by show q + 1 + j = q + (j + 1); omega]
        exact this
    · rw [e] at ih inc ⊢
      replace inc : Inc (i + 1) (j + 1) (msOf (i + 1) (j + 1) r) := inc
      rw [if_pos (by decide), if_pos (by decide), if_neg (by decide)]
      show KL ((x.1, "1") :: oursL r) ((x.1, "2") :: theirsL r) p q = Kf ((i, j, 1) :: msOf (i + 1) (j + 1) r) (p + i) (q + j)
      unfold Kf
      match p, q with
      | 0, 0 => rw [if_pos ⟨by omega, by omega⟩]; show (if x.1 = x.1 then some (if ("1" : Str) = "2" then (0 : Int) else 1) else none) = _; rw [if_pos rfl, if_neg (by decide +kernel)]
      | 0, q + 1 => rw [if_neg (by omega), Kf_low inc (.inl (by show 0 + i < i + 1; omega))]; exact KL_no1 (a := (x.1, "1")) (l1 := oursL r) nt q
      | p + 1, 0 => rw [if_neg (by omega), Kf_low inc (.inr (by show 0 + j < j + 1; omega))]; exact KL_no2 (b := (x.1, "2")) (l2 := theirsL r) no p
      | p + 1, q + 1 =>
        rw [if_neg (by omega)]
        have := ih p q
        rw [show p + 1 + i = p + (i + lo 4) from by show p + 1 + i = p + (i + 1); omega, show q + 1 + j = q + (j + lt_ 4) from by show q + 1 + j = q + (j + 1); omega]
        exact this
theorem ours_lenc (x : Str × Int) (r : List (Str × Int)) : (oursL (x :: r)).length = lo x.2 + (oursL r).length := by
  rw [oursL_cons]; unfold lo; split <;> simp
  omega
theorem theirs_lenc (x : Str × Int) (r : List (Str × Int)) : (theirsL (x :: r)).length = lt_ x.2 + (theirsL r).length := by
  rw [theirsL_cons]; unfold lt_; split <;> simp
  omega
theorem Kf_pre : ∀ (pre suf : List (Str × Int)) (i j a b : Nat), (i + (oursL pre).length ≤ a ∨ j + (theirsL pre).length ≤ b) → Kf (msOf i j (pre ++ suf)) a b = Kf (msOf (i + (oursL pre).length) (j + (theirsL pre).length) suf) a b
  | [], suf, i, j, a, b, _ => rfl
  | x :: r, suf, i, j, a, b, h => by
    rw [ours_lenc, theirs_lenc] at h ⊢
    have ih := Kf_pre r suf (i + lo x.2) (j + lt_ x.2) a b (by omega)
    rw [List.cons_append]
    rw [msOf_cons]
    rw [show i + (lo x.2 + (oursL r).length) = i + lo x.2 + (oursL r).length from by omega, show j + (lt_ x.2 + (theirsL r).length) = j + lt_ x.2 + (theirsL r).length from by omega]
    rw [← ih]
    by_cases c : x.2 ∈ [(3 : Int), 4]
    · rw [if_pos c]
      have z : lo x.2 = 1 ∧ lt_ x.2 = 1 := by
        simp only [List.mem_cons, List.not_mem_nil, or_false] at c
        rcases c with c | c <;> rw [c] <;> exact ⟨rfl, rfl⟩
      show (if i = a ∧ j = b then _ else _) = _
      rw [if_neg (by omega)]; rfl
    · rw [if_neg c]; rfl
end Mu
end
noncomputable section
open PySem PySem.W
set_option Elab.async false
set_option linter.unusedVariables false
set_option maxRecDepth 100000
namespace Mu
theorem bt_ins {ms : Ms} (hI : Inc 0 0 ms) {pb qb : Nat} (hb : (pb = 0 ∧ qb = 0) ∨ ∃ k, 0 < pb ∧ 0 < qb ∧ Kf ms (pb - 1) (qb - 1) = some k) {f : Nat} : ∀ n : Nat, (∀ b, qb ≤ b → b < qb + n → ∀ a, Kf ms a b = none) → bt (Kf ms) (f + n) pb (qb + n) = bt (Kf ms) f pb qb ++ (List.range n).map fun i => Sp.ins pb (qb + i)
  | 0, _ => by simp
  | n + 1, hc => by
    have ih := bt_ins hI hb (f := f) n fun b h1 h2 => hc b h1 (by omega)
    have k0 : keepQ (Kf ms) pb (qb + (n + 1)) = false := by
      unfold keepQ
      rw [show qb + (n + 1) - 1 = qb + n from rfl, hc (qb + n) (by omega) (by omega)]
      exact Bool.and_false _
    have o0 : ¬ (0 < pb ∧ T (Kf ms) pb (qb + (n + 1)) = T (Kf ms) (pb - 1) (qb + (n + 1)) + 1) := by
      rintro ⟨h1, h2⟩
      rcases hb with hb | ⟨k, b1, b2, b3⟩
      · omega
      · rw [T_eq hI, T_eq hI] at h2
        have sp := S_pair (qb + (n + 1)) hI b3 (by omega)
        rw [show pb - 1 + 1 = pb from by omega] at sp
        have k01 := Kf_01 hI b3
        omega
    rw [show f + (n + 1) = (f + n) + 1 from rfl, bt, if_neg fun c => Nat.succ_ne_zero _ c.2, if_neg (by rw [k0]; exact Bool.false_ne_true), if_neg o0, show qb + (n + 1) - 1 = qb + n from rfl, ih, List.range_succ, List.map_append, List.append_assoc]
    rfl
theorem bt_out {ms : Ms} (hI : Inc 0 0 ms) {pb q : Nat} {f : Nat} : ∀ n : Nat, (∀ a, pb ≤ a → a < pb + n → ∀ b, Kf ms a b = none) → bt (Kf ms) (f + n) (pb + n) q = bt (Kf ms) f pb q ++ (List.range n).map fun i => Sp.out (pb + i)
  | 0, _ => by simp
  | n + 1, hc => by
    have ih := bt_out hI (f := f) (q := q) n fun b h1 h2 => hc b h1 (by omega)
    have hr := hc (pb + n) (by omega) (by omega)
    have k0 : keepQ (Kf ms) (pb + (n + 1)) q = false := by
      unfold keepQ
      rw [show pb + (n + 1) - 1 = pb + n from rfl, hr]
      exact Bool.and_false _
    have o0 : 0 < pb + (n + 1) ∧ T (Kf ms) (pb + (n + 1)) q = T (Kf ms) (pb + (n + 1) - 1) q + 1 := by
      refine ⟨by omega, ?_⟩
      rw [show pb + (n + 1) - 1 = pb + n from rfl, T_eq hI, T_eq hI]
      have sp := S_row q hr
      rw [show pb + n + 1 = pb + (n + 1) from rfl] at sp
      rw [sp]; omega
    rw [show f + (n + 1) = (f + n) + 1 from rfl, bt, if_neg fun c => Nat.succ_ne_zero _ c.1, if_neg (by rw [k0]; exact Bool.false_ne_true), if_pos o0, show pb + (n + 1) - 1 = pb + n from rfl, ih, List.range_succ, List.map_append, List.append_assoc]
    rfl
theorem bt_keep {ms : Ms} (hI : Inc 0 0 ms) {p q : Nat} {k : Int} (h : Kf ms p q = some k) (f : Nat) : bt (Kf ms) (f + 1) (p + 1) (q + 1) = bt (Kf ms) f p q ++ [.keep p q] := by
  have k0 : keepQ (Kf ms) (p + 1) (q + 1) = true := by
    unfold keepQ
    rw [Nat.add_sub_cancel, Nat.add_sub_cancel, h]
    obtain ⟨s1, _, _⟩ := S_some hI h
    have : T (Kf ms) (p + 1) (q + 1) = T (Kf ms) p q + k := by rw [T_eq hI, T_eq hI, s1]; omega
    simp [this]
  rw [bt, if_neg fun c => Nat.succ_ne_zero _ c.1, if_pos k0]; rfl
/-- where the law's list and the walk meet -/
structure Meet (ms : Ms) (told : Sp → AV) (s : LS) (p q pb qb : Nat) : Prop where
  hp : s.place = p
  hb : s.begin_ = pb
  lp : pb ≤ p
  lq : qb ≤ q
  row : ∀ a, pb ≤ a → a < p → ∀ b, Kf ms a b = none
  col : ∀ b, qb ≤ b → b < q → ∀ a, Kf ms a b = none
  top : (pb = 0 ∧ qb = 0) ∨ ∃ k, 0 < pb ∧ 0 < qb ∧ Kf ms (pb - 1) (qb - 1) = some k
  fd : ∀ f, pb + qb ≤ f → (bt (Kf ms) f pb qb).map told = s.found
  gn : s.gone = (List.range (p - pb)).map fun i => told (.out (pb + i))
  pt : s.put = (List.range (q - qb)).map fun i => told (.ins pb (qb + i))
theorem Meet.all {ms : Ms} {told : Sp → AV} {s : LS} {p q pb qb : Nat} (hI : Inc 0 0 ms) (M : Meet ms told s p q pb qb) {f : Nat} (hf : p + q ≤ f) : (bt (Kf ms) f p q).map told = s.all := by
  obtain ⟨m, rfl⟩ := Nat.exists_eq_add_of_le M.lp
  obtain ⟨n, rfl⟩ := Nat.exists_eq_add_of_le M.lq
  obtain ⟨g, rfl⟩ : ∃ g, f = (g + n) + m := ⟨f - m - n, by omega⟩
  rw [bt_out hI m M.row, bt_ins hI M.top n M.col]
  rw [List.map_append, List.map_append, M.fd g (by omega), LS.all, M.gn, M.pt, List.map_map, List.map_map, Nat.add_sub_cancel_left, Nat.add_sub_cancel_left]
  rfl
theorem form_mid {pre post : List Lf} {x : Lf} : formAt (pre ++ x :: post) pre.length = leafL x := by
  rw [chAt_small (by simp)]; simp
theorem meet_run (path : List AV) (ps : List (Str × Int)) (hv : VOk ps) : ∀ (pre suf : List (Str × Int)), ps = pre ++ suf → ∃ pb qb, Meet (msOf 0 0 ps) (toldOf path (oursL ps) (theirsL ps)) (lrun path .zero pre) (oursL pre).length (theirsL pre).length pb qb := by
  have hI := ms_inc ps 0 0 hv
  suffices H : ∀ (n : Nat) (pre suf : List (Str × Int)), pre.length = n → ps = pre ++ suf → ∃ pb qb, Meet (msOf 0 0 ps) (toldOf path (oursL ps) (theirsL ps)) (lrun path .zero pre) (oursL pre).length (theirsL pre).length pb qb from fun pre suf e => H _ pre suf rfl e
  intro n
  induction n with
  | zero =>
    intro pre suf hl e
    obtain rfl := List.length_eq_zero_iff.mp hl
    exact ⟨0, 0, rfl, rfl, Nat.le_refl _, Nat.le_refl _, fun a _ h => absurd h (Nat.not_lt_zero _), fun a _ h => absurd h (Nat.not_lt_zero _), .inl ⟨rfl, rfl⟩, fun f _ => by rw [bt_end]; rfl, rfl, rfl⟩
  | succ n ih =>
    intro pre suf hl e
    obtain ⟨pre, x, rfl⟩ : ∃ a b, pre = a ++ [b] := ⟨pre.dropLast, pre.getLast (by intro h; rw [h] at hl; cases hl), (List.dropLast_concat_getLast _).symm⟩
    have hl' : pre.length = n := by simpa using hl
    rw [List.append_assoc] at e
    obtain ⟨pb, qb, M⟩ := ih pre ([x] ++ suf) hl' e
    have hx : x.2 ≤ 4 := hv x (by rw [e]; simp)
    have inc2 : Inc (oursL pre).length (theirsL pre).length (msOf (oursL pre).length (theirsL pre).length (x :: suf)) := ms_inc _ _ _ fun y hy => hv y (by rw [e]; exact List.mem_append_right _ hy)
    have inc3 : ∀ i j, Inc i j (msOf i j suf) := fun i j => ms_inc _ _ _ fun y hy => hv y (by rw [e]; exact List.mem_append_right _ (List.mem_append_right _ hy))
    have kp : ∀ a b, ((oursL pre).length ≤ a ∨ (theirsL pre).length ≤ b) → Kf (msOf 0 0 ps) a b = Kf (msOf (oursL pre).length (theirsL pre).length (x :: suf)) a b := fun a b h => by
      rw [e]
      have := Kf_pre pre ([x] ++ suf) 0 0 a b (by omega)
      rw [Nat.zero_add, Nat.zero_add] at this
      exact this
    rw [msOf_cons] at kp
    rw [lrun_app, oursL_app, theirsL_app, oursL_cons, theirsL_cons]
    show ∃ pb qb, Meet _ _ (lstep path (lrun path .zero pre) x.1 x.2) _ _ pb qb
    have f1 : formAt (oursL ps) (oursL pre).length = leafL (x.1, "1") ∨ ¬ x.2 ∈ [(1 : Int), 3, 4] := by
      by_cases c : x.2 ∈ [(1 : Int), 3, 4]
      · left
        rw [e, oursL_app, List.cons_append, List.nil_append, oursL_cons, if_pos c]
        exact form_mid
      · exact .inr c
    have f2 : formAt (theirsL ps) (theirsL pre).length = leafL (x.1, if x.2 = 3 then "1" else "2") ∨ ¬ 1 < x.2 := by
      by_cases c : 1 < x.2
      · left
        rw [e, theirsL_app, List.cons_append, List.nil_append, theirsL_cons, if_pos c]
        exact form_mid
      · exact .inr c
    generalize hs : lrun path .zero pre = s at M ⊢
    generalize hp : (oursL pre).length = p at *
    generalize hq : (theirsL pre).length = q at *
    rcases v_cases hx with ⟨e1, e2, e3, e4, e5, e6⟩ | ev | ev | ev | ev
    · rw [if_neg e3, if_neg e4]
      refine ⟨pb, qb, ?_⟩
      have : lstep path s x.1 x.2 = s := by
        unfold lstep lmid
        rw [if_neg (by omega), if_neg (by omega), if_neg (by omega), if_neg e3]; rfl
      rw [this]
      have n1 : oursL pre ++ ([] ++ oursL []) = oursL pre := by simp [show oursL [] = [] from rfl]
      have n2 : theirsL pre ++ ([] ++ theirsL []) = theirsL pre := by simp [show theirsL [] = [] from rfl]
      rw [n1, n2, hp, hq]; exact M
    · have hrow : ∀ b, Kf (msOf 0 0 ps) p b = none := fun b => by
        rw [kp p b (.inl (Nat.le_refl _)), ev]
        exact Kf_low (inc3 (p + 1) (q + 0)) (.inl (Nat.lt_succ_self _))
      rw [ev, if_pos (by decide), if_neg (by decide)]
      have l1 : (oursL pre ++ (([(x.1, "1")] : List Lf) ++ oursL [])).length = p + 1 := by simp [show oursL [] = [] from rfl, hp]
      have l2 : (theirsL pre ++ ([] ++ theirsL [])).length = q := by simp [show theirsL [] = [] from rfl, hq]
      rw [l1, l2]
      have : lstep path s x.1 1 = { s with gone := s.gone ++ [.tup [.str "delete", .tup (path ++ [.int s.place])]], place := s.place + 1 } := rfl
      rw [this]
      refine ⟨pb, qb, ⟨by show s.place + 1 = p + 1; rw [M.hp], M.hb, Nat.le_succ_of_le M.lp, M.lq, fun a h1 h2 b => ?_, M.col, M.top, M.fd, ?_, M.pt⟩⟩
      · rcases Nat.lt_succ_iff_lt_or_eq.mp h2 with h2 | h2
        · exact M.row a h1 h2 b
        · rw [h2]; exact hrow b
      · have := M.lp
        rw [show p + 1 - pb = (p - pb) + 1 from Nat.succ_sub M.lp, List.range_succ, List.map_append, ← M.gn]
        show s.gone ++ [.tup [.str "delete", .tup (path ++ [.int s.place])]] = s.gone ++ [.tup [.str "delete", .tup (path ++ [.int ((pb + (p - pb) : Nat) : Int)])]]
        rw [M.hp, show pb + (p - pb) = p from Nat.add_sub_cancel' M.lp]
    · have hcol : ∀ a, Kf (msOf 0 0 ps) a q = none := fun a => by
        rw [kp a q (.inr (Nat.le_refl _)), ev]
        exact Kf_low (inc3 (p + 0) (q + 1)) (.inr (Nat.lt_succ_self _))
      replace f2 : formAt (theirsL ps) q = leafL (x.1, "2") := by
        rcases f2 with f2 | f2
        · rw [f2, ev]; rfl
        · omega
      rw [ev, if_neg (by decide), if_pos (by decide)]
      have l1 : (oursL pre ++ ([] ++ oursL [])).length = p := by simp [show oursL [] = [] from rfl, hp]
      have l2 : ∀ w, (theirsL pre ++ (([(x.1, w)] : List Lf) ++ theirsL [])).length = q + 1 := fun w => by simp [show theirsL [] = [] from rfl, hq]
      rw [l1, l2]
      have : lstep path s x.1 2 = { s with put := s.put ++ [.tup [.str "insert", .tup (path ++ [.int s.begin_]), lchild x.1 "2"]] } := rfl
      rw [this]
      refine ⟨pb, qb, ⟨M.hp, M.hb, M.lp, Nat.le_succ_of_le M.lq, M.row, fun b h1 h2 a => ?_, M.top, M.fd, M.gn, ?_⟩⟩
      · rcases Nat.lt_succ_iff_lt_or_eq.mp h2 with h2 | h2
        · exact M.col b h1 h2 a
        · rw [h2]; exact hcol a
      · have := M.lq
        rw [show q + 1 - qb = (q - qb) + 1 from Nat.succ_sub M.lq, List.range_succ, List.map_append, ← M.pt]
        show s.put ++ [.tup [.str "insert", .tup (path ++ [.int s.begin_]), lchild x.1 "2"]] = s.put ++ [.tup [.str "insert", .tup (path ++ [.int pb]), .tup (formAt (theirsL ps) (qb + (q - qb)))]]
        rw [M.hb, show qb + (q - qb) = q from Nat.add_sub_cancel' M.lq, f2]; rfl
    all_goals
      obtain ⟨k, hk⟩ : ∃ k, Kf (msOf 0 0 ps) p q = some k := by
        refine ⟨if x.2 = 3 then (0 : Int) else 1, ?_⟩
        rw [kp p q (.inl (Nat.le_refl _)), if_pos (show x.2 ∈ [(3 : Int), 4] by rw [ev]; decide)]
        exact if_pos ⟨rfl, rfl⟩
      replace f1 : formAt (oursL ps) p = leafL (x.1, "1") := by
        rcases f1 with f1 | f1
        · exact f1
        · exact absurd (by rw [ev]; decide) f1
      replace f2 : formAt (theirsL ps) q = leafL (x.1, if x.2 = 3 then "1" else "2") := by
        rcases f2 with f2 | f2
        · exact f2
        · omega
      have l1 : (oursL pre ++ ((if x.2 ∈ [(1 : Int), 3, 4] then ([(x.1, "1")] : List Lf) else []) ++ oursL [])).length = p + 1 := by rw [ev, if_pos (by decide)]; simp [show oursL [] = [] from rfl, hp]
      have l2 : (theirsL pre ++ ((if 1 < x.2 then ([(x.1, if x.2 = 3 then "1" else "2")] : List Lf) else []) ++ theirsL [])).length = q + 1 := by rw [ev, if_pos (by decide)]; simp [show theirsL [] = [] from rfl, hq]
      rw [l1, l2]
      have hst : lstep path s x.1 x.2 = { found := s.found ++ s.put ++ s.gone ++ [.tup [.str "pair", .tup (path ++ [.int s.place]), lchild x.1 "1", lchild x.1 (if x.2 = 3 then "1" else "2")]], put := [], gone := [], place := s.place + 1, begin_ := s.place + 1 } := by rw [ev]; rfl
      rw [hst]
      refine ⟨p + 1, q + 1, ⟨by show s.place + 1 = p + 1; rw [M.hp], by show s.place + 1 = p + 1; rw [M.hp], Nat.le_refl _, Nat.le_refl _, fun a h1 h2 => absurd h2 (Nat.not_lt.mpr h1), fun a h1 h2 => absurd h2 (Nat.not_lt.mpr h1), .inr ⟨k, Nat.succ_pos _, Nat.succ_pos _, hk⟩, fun f hf => ?_, by rw [Nat.sub_self]; rfl, by rw [Nat.sub_self]; rfl⟩⟩
      obtain ⟨g, rfl⟩ : ∃ g, f = g + 1 := ⟨f - 1, by omega⟩
      rw [bt_keep hI hk g, List.map_append, M.all hI (by omega)]
      show s.found ++ s.put ++ s.gone ++ [.tup ([.str "pair", .tup (path ++ [.int p])] ++ [.tup (formAt (oursL ps) p), .tup (formAt (theirsL ps) q)])] = _
      rw [f1, f2, M.hp]; rfl
theorem walk_law (path : List AV) (ps : List (Str × Int)) (hv : VOk ps) (hn : (ps.map (·.1)).Nodup) : (walk (oursL ps) (theirsL ps)).map (toldOf path (oursL ps) (theirsL ps)) = lawTasks path ps := by
  have hI := ms_inc ps 0 0 hv
  obtain ⟨pb, qb, M⟩ := meet_run path ps hv ps [] (List.append_nil _).symm
  have hK : KL (oursL ps) (theirsL ps) = Kf (msOf 0 0 ps) := by
    funext p q
    exact KL_ms ps 0 0 p q hv hn
  unfold walk lawTasks
  rw [hK]
  exact M.all hI (Nat.le_refl _)
end Mu
end
noncomputable section
open PySem PySem.W PySem.Calls PyProof.Rows
set_option Elab.async false
set_option linter.unusedVariables false
set_option maxRecDepth 100000
set_option maxHeartbeats 4000000
namespace Mu
/-- a word of signs that all differ -/
structure Word (x : Str) : Prop where
  asc : ascii x = true
  len : x.cps.size ≤ 6
  nod : ((List.range x.cps.size).map (signAt x)).Nodup
theorem Word.zip {x : Str} (W : Word x) (sv : List Int) : ((zipped x sv).map (·.1)).Nodup := by
  unfold zipped
  rw [List.map_map]
  have : ((fun p : Str × Int => p.1) ∘ fun i => (signAt x i, sv.getD i 0)) = signAt x := rfl
  rw [this]
  exact List.Pairwise.sublist (List.Sublist.map _ (List.range_sublist.mpr (Nat.min_le_left _ _))) W.nod
theorem word3 : Word "abc" := ⟨by decide +kernel, by decide +kernel, by decide +kernel⟩
theorem word_s6 : Word (PySem.Txt.slice "abcdef" none (some 6)) := ⟨by decide +kernel, by decide +kernel, by decide +kernel⟩
theorem word_s3 : Word (PySem.Txt.slice "abcdef" none (some 3)) := ⟨by decide +kernel, by decide +kernel, by decide +kernel⟩
theorem vok_zip {x : Str} {sv : List Int} (h : ∀ v ∈ sv, v ≤ 4) : VOk (zipped x sv) := fun p hp => by
  obtain ⟨i, hi, rfl⟩ := List.mem_map.mp hp
  have hl : i < sv.length := by have := List.mem_range.mp hi; omega
  show sv.getD i 0 ≤ 4
  rw [List.getD_eq_getElem?_getD, List.getElem?_eq_getElem hl]
  exact h _ (List.getElem_mem hl)
theorem SrcL.grow {hp hp' : AH} {s : Addr} (S : SrcL hp s) (g : Grow hp hp') : SrcL hp' s := let ⟨a, b, e, r, r2, r3⟩ := S; ⟨a, b, g _ _ e, r, r2, r3⟩
theorem SrcL.ne {hp : AH} {s x : Addr} (S : SrcL hp s) (h : hp x = none) : s ≠ x := let ⟨_, _, e, _, _, _⟩ := S; ne_at e h

section
variable {c : Cx} {P : Params} (hK : c.K = KK P)
include hK

theorem law_ {N : Nat} {l : Addr} {ns : List Int} {k : AV → AH → Prop} {hp : AH} (B : Base c l ns) (hz : ns.length ≤ 1000) (h : ∀ hp', k (.bool true) hp') : Cal c (N + 9) (.ref 209) [.ref l] k hp := by
  refine Cal_fn (⟨⟨_, _, _, by rw [hK]; k_is⟩, by rw [hK]; k_is, by exact rfl, rfl, rfl, rfl, (by intro vs hv; obtain ⟨_, vs1, rfl, hv1⟩ := vlenS (n := 0) hv; obtain rfl := vlen0 hv1; rfl), (by decide), allCons (by first | exact .inl rfl | exact .inr ⟨rfl, fun _ => rfl⟩) <| allNil, rfl, rfl, rfl⟩ : Fn c 209 ⟨_, _, ⟨_, _, _, _, _, _, _⟩, .stmts (_ :: _), ⟨_, _, _, _, _⟩, _, _, _, _, _, _, _, _, _, _⟩ (_ :: _) ["script"]) rfl fun L hL => ?_
  refine Ex_cons ?_
  refine Ex_If ?_
  refine Tst_Not ?_
  refine Tst_value ?_
  refine Ev_CallF ⟨rfl, rfl, rfl⟩ rfl (g__law_inner_right hK) (keep_199 hK) ?_
  refine Evs_cons ?_
  refine Ev_str ?_
  refine Evs_cons ?_
  refine Ev_List ?_
  refine Evs_cons ?_
  refine Ev_int ?_
  refine Evs_cons ?_
  refine Ev_int ?_
  refine Evs_cons ?_
  refine Ev_int ?_
  refine Evs_nil ?_
  refine ⟨by simp, fun T hT => ?_⟩
  refine Evs_cons ?_
  refine Ev_Tuple ?_
  refine Evs_nil ?_
  refine ⟨by simp, ?_⟩
  refine Evs_nil ?_
  refine right_ hK (pi := []) (sv := [1, 3, 2]) word3.asc upd_same (by decide) (by decide) (walk_law _ _ (vok_zip (by decide)) (word3.zip _)) fun hp1 g1 => ?_
  refine ⟨true, rfl, fun hb => (by cases hb), fun _ => Ex_nil ?_⟩
  refine Ex_cons ?_
  refine Ex_Assign ?_
  refine Ev_CallF ⟨rfl, rfl, rfl⟩ rfl (g__law_pool hK) (keep_159 hK) ?_
  refine Evs_cons ?_
  refine Ev_loc ⟨rfl, rfl, rfl⟩ rfl rfl ?_
  refine Evs_cons ?_
  refine Ev_int ?_
  refine Evs_nil ?_
  refine pool_ hK B hz fun s hp2 g2 s0 S => ?_
  refine Un_cell ⟨rfl, rfl, rfl⟩ rfl rfl (by exact .head _) (fun y e => cells1 e) ?_
  obtain ⟨a, b, es, a0, b0, b1⟩ := id S
  refine Ex_cons (Ex.mono (k := fun fl st₂ => And4 (fl = .next) (st₂.hp = hp2) (∃ x, Word x ∧ st₂.loc "names" = some (.str x)) (st₂.loc "source" = some (.ref s))) ?_ ?_)
  · refine Ex_Assign ?_
    refine Ev_SubStr ?_
    refine Ev_str ?_
    refine ⟨_, rfl, by decide +kernel, ?_⟩
    refine Ev_IfExp ?_
    refine Tst_Compare ?_
    refine Ev_Sub ?_
    refine Ev_cell ⟨rfl, rfl, rfl⟩ rfl rfl ?_
    refine Ev_int ?_
    refine Op_subL (a := .int a) es (by decide) rfl ?_
    refine Ev_int ?_
    refine Op_gt ?_
    refine ⟨_, rfl, fun hb => ?_, fun hb => ?_⟩
    · refine Ev_int ?_
      refine ⟨6, rfl, ?_⟩
      refine Un_loc ⟨rfl, rfl, rfl⟩ rfl ?_
      exact ⟨rfl, rfl, ⟨_, word_s6, rfl⟩, rfl⟩
    · refine Ev_int ?_
      refine ⟨3, rfl, ?_⟩
      refine Un_loc ⟨rfl, rfl, rfl⟩ rfl ?_
      exact ⟨rfl, rfl, ⟨_, word_s3, rfl⟩, rfl⟩
  rintro fl st₂ ⟨rfl, hhp, ⟨x, wx, en⟩, e1⟩
  have S2 : SrcL st₂.hp s := hhp ▸ S
  have wl := wx.len
  refine Ex_cons (Ex_AssignComp (xs := ["source"]) ⟨rfl, rfl, rfl⟩ (Src_str (Ev_loc ⟨rfl, rfl, rfl⟩ rfl en ⟨x, rfl, wx.asc, by omega, fun C hC hCL => ⟨fun j acc st' => And3 (∃ sv : List Int, And3 (acc = sv.map .int) (sv.length = j) (∀ v ∈ sv, v ≤ 4)) (SrcL st'.hp s) (st'.loc "source" = some (.ref s)),
      ⟨⟨[], rfl, rfl, by simp⟩, S2, e1⟩, fun j acc st' hj ⟨⟨sv, e5, e6, e7⟩, S3, d1⟩ => ⟨trivial, ?_⟩, fun acc st' ⟨⟨sv, e5, e6, e7⟩, S3, d1⟩ => ⟨trivial, fun G hG => ?_⟩⟩⟩)) (hcl := by
        intro p hp
        rcases List.mem_cons.mp hp with rfl | hp
        · rfl
        · cases hp) (hxs := by
        intro x hx
        rcases List.mem_cons.mp hx with rfl | hx
        · exact ⟨rfl, rfl, rfl⟩
        · cases hx))
  · refine Un1_Name ?_
    refine Un_loc ⟨rfl, rfl, rfl⟩ rfl ?_
    refine Ev_CallF ⟨rfl, rfl, rfl⟩ rfl (g__law_take hK) (keep_166 hK) ?_
    refine Evs_cons ?_
    refine Ev_cell ⟨rfl, rfl, rfl⟩ rfl d1 ?_
    refine Evs_cons ?_
    refine Ev_int ?_
    refine Evs_nil ?_
    refine take_ hK S3 (by decide) (by decide) fun r hp3 r0 r1 g3 S4 => ?_
    refine ⟨⟨sv ++ [r], ?_, by rw [List.length_append, e6]; rfl, fun v hv => ?_⟩, S4, d1⟩
    · show acc ++ [_] = _
      rw [e5, List.map_append]; rfl
    · rcases List.mem_append.mp hv with hv | hv
      · exact e7 v hv
      · rw [List.mem_singleton.mp hv]; omega
  subst e5
  have hG' : st'.hp G = none := hG
  have sG : s ≠ G := S3.ne hG'
  have S4 : SrcL (upd st'.hp G (.list (sv.map .int))) s := S3.grow (.new hG')
  refine Ex_cons ?_
  refine Ex_Assign ?_
  refine Ev_CallB ⟨rfl, rfl, rfl⟩ rfl (g_tuple hK) rfl rfl ?_
  refine Evs_cons ?_
  refine Ev_ListComp (xs := ["source"]) ⟨rfl, rfl, rfl⟩ (Src_range ⟨rfl, rfl, rfl⟩ rfl (g_range hK) ?_) (hcl := by
        intro p hp
        rcases List.mem_cons.mp hp with rfl | hp
        · rfl
        · cases hp) (hxs := by
        intro x hx
        rcases List.mem_cons.mp hx with rfl | hx
        · exact ⟨rfl, rfl, rfl⟩
        · cases hx)
  refine Ev_CallF ⟨rfl, rfl, rfl⟩ rfl (g__law_take hK) (keep_166 hK) ?_
  refine Evs_cons ?_
  refine Ev_cell ⟨rfl, rfl, rfl⟩ rfl e1 ?_
  refine Evs_cons ?_
  refine Ev_int ?_
  refine Evs_nil ?_
  refine take_ hK S4 (by decide) (by decide) fun n hp5 n0 n1 g5 S5 => ?_
  obtain ⟨m, rfl⟩ : ∃ m : Nat, n = m := ⟨n.toNat, by omega⟩
  have q5 : hp5 G = some (.list (sv.map .int)) := g5 _ _ (by simpa using sG.symm) upd_same
  refine ⟨m, rfl, by omega, by omega, fun C hC hCL => ⟨fun j acc st' => And4 (∃ pi : List Int, acc = pi.map .int ∧ pi.length = j) (SrcL st'.hp s) (st'.hp G = some (.list (sv.map .int))) (st'.loc "source" = some (.ref s)),
      ⟨⟨[], rfl, rfl⟩, S5, q5, e1⟩, fun j acc st' hj ⟨⟨pi, e8, e9⟩, S6, q6, d2⟩ => ⟨trivial, ?_⟩, fun acc st' ⟨⟨pi, e8, e9⟩, S6, q6, d2⟩ => ⟨trivial, fun D hD => ?_⟩⟩⟩
  · refine Un1_Name ?_
    refine Un_loc ⟨rfl, rfl, rfl⟩ rfl ?_
    refine Ev_CallF ⟨rfl, rfl, rfl⟩ rfl (g__law_take hK) (keep_166 hK) ?_
    refine Evs_cons ?_
    refine Ev_cell ⟨rfl, rfl, rfl⟩ rfl d2 ?_
    refine Evs_cons ?_
    refine Ev_int ?_
    refine Evs_nil ?_
    refine take_ hK S6 (by decide) (by decide) fun r hp7 r0 r1 g7 S7 => ?_
    refine ⟨⟨pi ++ [r], ?_, by rw [List.length_append, e9]; rfl⟩, S7, g7 _ _ (by simpa using sG.symm) q6, d2⟩
    show acc ++ [_] = _
    rw [e8, List.map_append]; rfl
  subst e8
  have hD' : st'.hp D = none := hD
  refine Evs_nil ?_
  refine Op_tupleL upd_same ?_
  refine Un_loc ⟨rfl, rfl, rfl⟩ rfl ?_
  refine Ex_cons ?_
  refine Ex_Return ?_
  refine Ev_And2 ?_
  refine Ev_CallF ⟨rfl, rfl, rfl⟩ rfl (g__law_inner_right hK) (keep_199 hK) ?_
  refine Evs_cons ?_
  refine Ev_loc ⟨rfl, rfl, rfl⟩ rfl en ?_
  refine Evs_cons ?_
  refine Ev_loc ⟨rfl, rfl, rfl⟩ rfl rfl ?_
  refine Evs_cons ?_
  refine Ev_loc ⟨rfl, rfl, rfl⟩ rfl rfl ?_
  refine Evs_nil ?_
  refine right_ hK wx.asc (upd_at q6 hD') (by omega) (by omega) (walk_law _ _ (vok_zip e7) (wx.zip _)) fun hp8 g8 => ?_
  refine ⟨true, rfl, fun hb => (by cases hb), fun _ => ?_⟩
  refine Ev_CallF ⟨rfl, rfl, rfl⟩ rfl (g__law_own_right hK) (keep_204 hK) ?_
  refine Evs_cons ?_
  refine Ev_cell ⟨rfl, rfl, rfl⟩ rfl e1 ?_
  refine Evs_cons ?_
  refine Ev_loc ⟨rfl, rfl, rfl⟩ rfl rfl ?_
  refine Evs_nil ?_
  exact own_right_ hK ((S6.grow (.new hD')).grow g8) (by omega) fun hp9 => h _
end
end Mu
end
noncomputable section
open PySem PySem.W PySem.Calls PyProof.Rows
set_option Elab.async false
set_option linter.unusedVariables false
set_option maxRecDepth 100000
set_option maxHeartbeats 8000000
namespace Mu
theorem room_caller : Room 9 callerA := ⟨rfl, by show (callerA).depth + 2 * 9 + 2 ≤ 900; decide +kernel, by show (callerA).units + 20 * 9 + 200 ≤ 9000; decide +kernel⟩
section
variable {c : Cx} {P : Params} (hK : c.K = KK P)
include hK
theorem g_law : nsIn c.K mainGlobals "law" = some (some (.ref 209)) := by rw [hK]; k_is
theorem end_ {l : Addr} {ns : List Int} (B : Base c l ns) (hz : ns.length ≤ 1000) {s : Shared} (h0 : c.h₀ = s.heap) {Q E : Value → Shared → Prop}
    (hQ : ∀ s', (∀ b o, s.heap.get? b = some o → s'.heap.get? b = some o) → s'.os = s.os → s'.gens = s.gens → Q (.bool true) s') : wpAny c.M callerA (call (.ref 209) [.ref l]) Q E s := by
  have W : Cal c (0 + 9) (.ref 209) [.ref l] (fun v _ => v = .bool true) (fun _ => none) := law_ hK B hz fun _ => rfl
  have H : HR c ⟨fun b => s.heap.get? b, fun _ => False⟩ (fun _ => none) s.heap := ⟨fun _ _ e => e, fun b o e => (by rw [← h0]; exact e), fun _ _ e => (nomatch e), fun _ (e : False) => e.elim, fun _ _ e => (nomatch e)⟩
  refine wpAny_mono (W callerA _ s [.ref l] room_caller H (.cons (.ref l) .nil)) (fun v s' ⟨av, hp', H', V, E, q⟩ => ?_) fun _ _ e => e.elim
  subst q
  cases V
  obtain ⟨h, tk, rfl⟩ := E
  exact hQ _ (fun b o e => H'.prot b o e) rfl rfl
end
end Mu
end
open PySem PySem.W PySem.Calls PyProof.Rows
theorem PySem.Challenge.cw_xm0659_01_holds : PySem.Challenge.rw_xm0659_01.Holds := by
  refine Mu.hd ⟨_, _, rfl, rfl, rfl, ?_⟩
  intro w s₀ s₁ mg mb G Y fa o pm cd doc dV kV ho hdd hcd hD hmg hg args vals as hpre hlay hrd hwl hlo
  have KX := kIn_of Y
  refine Ground.open G ?_
  intro T B D TE TW
  wrow_args hpre hlay hrd hwl hlo
  rename_i ns _ _ _ _ _ _ l vs _ hL _ _ _ hI _ hn _
  refine wpAny_mono ?_ (fun _ _ g => GoodW.toG g) (fun _ _ g => GoodW.toG g)
  have hfa := hmg.symm.trans (mg_of KX (topRead_of T).g (Mu.g_law (c := ⟨PySem.Challenge.rw_xm0659_01.row.prog, w, Mu.KK w.params, s₁.heap, _, _, mg, mb, KX, topRead_of T⟩) rfl))
  cases hfa
  refine Mu.end_ (c := ⟨PySem.Challenge.rw_xm0659_01.row.prog, w, Mu.KK w.params, s₁.heap, _, _, mg, mb, KX, topRead_of T⟩) rfl ⟨vs, hL, hI⟩ (by omega) rfl fun s' hk hos hgs => ?_
  exact ⟨.inl ⟨_, .bool true, [], rfl, fun _ => rfl, ReadsW.bool true, (by wrow_post), fun _ => ⟨List.nodup_nil, fun _ hm => (nomatch hm)⟩⟩, hk, hos, hgs.trans hg⟩
