import PyProof.Rows.All
import Wide.All
import OpenK.AllK
import Wide.FinOn
import PySem.Challenge.RW_on0162_01
/-! One file, joined by a small program out of texts that were built apart: each stands in a section of its own, so that its lines for the walk end with it. -/
set_option Elab.async false
/-! Hk -/
section
open PySem PySem.W PyProof.Rows
namespace Mine
/-! The head by hand: the text seen by the walk (view) and the part of the state that the walk knows (frag); the code in them is taken out of the row's own term. -/
noncomputable def stAt : List Stmt → Nat → Stmt
  | [], _ => .Pass ⟨0, 0, 0, 0⟩
  | x :: _, 0 => x
  | _ :: l, n + 1 => stAt l n
noncomputable def topAt (n : Nat) : Stmt := stAt PySem.Challenge.pw_on0162_01.main.body n
noncomputable def clsBody : Stmt → List Stmt
  | .ClassDef (body := b) .. => b
  | _ => []
noncomputable def defArgs : Stmt → Arguments
  | .FunctionDef (args := a) .. => a
  | _ => ⟨[], [], none, [], [], none, []⟩
noncomputable def defBody : Stmt → List Stmt
  | .FunctionDef (body := b) .. => b
  | _ => []
noncomputable def defScope : Stmt → Scope
  | .FunctionDef (scope := s) .. => s
  | _ => default
set_option maxRecDepth 100000 in
set_option maxHeartbeats 0 in
noncomputable def frag : Params → Frag := by
  refine' ((?f : (a0 : Arguments) → (b0 : List Stmt) → (s0 : Scope) → (a1 : Arguments) → (b1 : List Stmt) → (s1 : Scope) → (a2 : Arguments) → (b2 : List Stmt) → (s2 : Scope) → (a3 : Arguments) → (b3 : List Stmt) → (s3 : Scope) → (a4 : Arguments) → (b4 : List Stmt) → (s4 : Scope) → (a5 : Arguments) → (b5 : List Stmt) → (s5 : Scope) → (a6 : Arguments) → (b6 : List Stmt) → (s6 : Scope) → (a7 : Arguments) → (b7 : List Stmt) → (s7 : Scope) → (a8 : Arguments) → (b8 : List Stmt) → (s8 : Scope) → (a9 : Arguments) → (b9 : List Stmt) → (s9 : Scope) → (a10 : Arguments) → (b10 : List Stmt) → (s10 : Scope) → (a11 : Arguments) → (b11 : List Stmt) → (s11 : Scope) → (a12 : Arguments) → (b12 : List Stmt) → (s12 : Scope) → (a13 : Arguments) → (b13 : List Stmt) → (s13 : Scope) → (a14 : Arguments) → (b14 : List Stmt) → (s14 : Scope) → (a15 : Arguments) → (b15 : List Stmt) → (s15 : Scope) → (a16 : Arguments) → (b16 : List Stmt) → (s16 : Scope) → (a17 : Arguments) → (b17 : List Stmt) → (s17 : Scope) → (a18 : Arguments) → (b18 : List Stmt) → (s18 : Scope) → (a19 : Arguments) → (b19 : List Stmt) → (s19 : Scope) → (a20 : Arguments) → (b20 : List Stmt) → (s20 : Scope) → (a21 : Arguments) → (b21 : List Stmt) → (s21 : Scope) → (a22 : Arguments) → (b22 : List Stmt) → (s22 : Scope) → (a23 : Arguments) → (b23 : List Stmt) → (s23 : Scope) → (a24 : Arguments) → (b24 : List Stmt) → (s24 : Scope) → (a25 : Arguments) → (b25 : List Stmt) → (s25 : Scope) → (a26 : Arguments) → (b26 : List Stmt) → (s26 : Scope) → (a0 = defArgs (topAt 0) ∧ b0 = defBody (topAt 0) ∧ s0 = defScope (topAt 0) ∧ a1 = defArgs (stAt (clsBody (topAt 10)) 0) ∧ b1 = defBody (stAt (clsBody (topAt 10)) 0) ∧ s1 = defScope (stAt (clsBody (topAt 10)) 0) ∧ a2 = defArgs (stAt (clsBody (topAt 10)) 1) ∧ b2 = defBody (stAt (clsBody (topAt 10)) 1) ∧ s2 = defScope (stAt (clsBody (topAt 10)) 1) ∧ a3 = defArgs (stAt (clsBody (topAt 10)) 2) ∧ b3 = defBody (stAt (clsBody (topAt 10)) 2) ∧ s3 = defScope (stAt (clsBody (topAt 10)) 2) ∧ a4 = defArgs (stAt (clsBody (topAt 10)) 3) ∧ b4 = defBody (stAt (clsBody (topAt 10)) 3) ∧ s4 = defScope (stAt (clsBody (topAt 10)) 3) ∧ a5 = defArgs (stAt (clsBody (topAt 10)) 4) ∧ b5 = defBody (stAt (clsBody (topAt 10)) 4) ∧ s5 = defScope (stAt (clsBody (topAt 10)) 4) ∧ a6 = defArgs (stAt (clsBody (topAt 10)) 5) ∧ b6 = defBody (stAt (clsBody (topAt 10)) 5) ∧ s6 = defScope (stAt (clsBody (topAt 10)) 5) ∧ a7 = defArgs (stAt (clsBody (topAt 10)) 6) ∧ b7 = defBody (stAt (clsBody (topAt 10)) 6) ∧ s7 = defScope (stAt (clsBody (topAt 10)) 6) ∧ a8 = defArgs (stAt (clsBody (topAt 10)) 7) ∧ b8 = defBody (stAt (clsBody (topAt 10)) 7) ∧ s8 = defScope (stAt (clsBody (topAt 10)) 7) ∧ a9 = defArgs (stAt (clsBody (topAt 10)) 8) ∧ b9 = defBody (stAt (clsBody (topAt 10)) 8) ∧ s9 = defScope (stAt (clsBody (topAt 10)) 8) ∧ a10 = defArgs (stAt (clsBody (topAt 10)) 9) ∧ b10 = defBody (stAt (clsBody (topAt 10)) 9) ∧ s10 = defScope (stAt (clsBody (topAt 10)) 9) ∧ a11 = defArgs (stAt (clsBody (topAt 10)) 10) ∧ b11 = defBody (stAt (clsBody (topAt 10)) 10) ∧ s11 = defScope (stAt (clsBody (topAt 10)) 10) ∧ a12 = defArgs (stAt (clsBody (topAt 10)) 11) ∧ b12 = defBody (stAt (clsBody (topAt 10)) 11) ∧ s12 = defScope (stAt (clsBody (topAt 10)) 11) ∧ a13 = defArgs (stAt (clsBody (topAt 10)) 12) ∧ b13 = defBody (stAt (clsBody (topAt 10)) 12) ∧ s13 = defScope (stAt (clsBody (topAt 10)) 12) ∧ a14 = defArgs (stAt (clsBody (topAt 10)) 13) ∧ b14 = defBody (stAt (clsBody (topAt 10)) 13) ∧ s14 = defScope (stAt (clsBody (topAt 10)) 13) ∧ a15 = defArgs (stAt (clsBody (topAt 10)) 14) ∧ b15 = defBody (stAt (clsBody (topAt 10)) 14) ∧ s15 = defScope (stAt (clsBody (topAt 10)) 14) ∧ a16 = defArgs (stAt (clsBody (topAt 10)) 15) ∧ b16 = defBody (stAt (clsBody (topAt 10)) 15) ∧ s16 = defScope (stAt (clsBody (topAt 10)) 15) ∧ a17 = defArgs (topAt 11) ∧ b17 = defBody (topAt 11) ∧ s17 = defScope (topAt 11) ∧ a18 = defArgs (topAt 12) ∧ b18 = defBody (topAt 12) ∧ s18 = defScope (topAt 12) ∧ a19 = defArgs (topAt 13) ∧ b19 = defBody (topAt 13) ∧ s19 = defScope (topAt 13) ∧ a20 = defArgs (topAt 15) ∧ b20 = defBody (topAt 15) ∧ s20 = defScope (topAt 15) ∧ a21 = defArgs (topAt 17) ∧ b21 = defBody (topAt 17) ∧ s21 = defScope (topAt 17) ∧ a22 = defArgs (topAt 18) ∧ b22 = defBody (topAt 18) ∧ s22 = defScope (topAt 18) ∧ a23 = defArgs (topAt 20) ∧ b23 = defBody (topAt 20) ∧ s23 = defScope (topAt 20) ∧ a24 = defArgs (topAt 21) ∧ b24 = defBody (topAt 21) ∧ s24 = defScope (topAt 21) ∧ a25 = defArgs (topAt 22) ∧ b25 = defBody (topAt 22) ∧ s25 = defScope (topAt 22) ∧ a26 = defArgs (topAt 23) ∧ b26 = defBody (topAt 23) ∧ s26 = defScope (topAt 23)) → Params → Frag) _ _ _ _ _ _ _ _ _ _ _ _ _ _ _ _ _ _ _ _ _ _ _ _ _ _ _ _ _ _ _ _ _ _ _ _ _ _ _ _ _ _ _ _ _ _ _ _ _ _ _ _ _ _ _ _ _ _ _ _ _ _ _ _ _ _ _ _ _ _ _ _ _ _ _ _ _ _ _ _ _ ?h)
  case f => exact fun a0 b0 s0 a1 b1 s1 a2 b2 s2 a3 b3 s3 a4 b4 s4 a5 b5 s5 a6 b6 s6 a7 b7 s7 a8 b8 s8 a9 b9 s9 a10 b10 s10 a11 b11 s11 a12 b12 s12 a13 b13 s13 a14 b14 s14 a15 b15 s15 a16 b16 s16 a17 b17 s17 a18 b18 s18 a19 b19 s19 a20 b20 s20 a21 b21 s21 a22 b22 s22 a23 b23 s23 a24 b24 s24 a25 b25 s25 a26 b26 s26 _ => fun P =>
    ((nat_lit 2), (PySem.Obj.mk PySem.Value.none none (PySem.Data.dict (List.toArray []) (0 : Nat)) (List.toArray []))) ::
    ((nat_lit 3), (PySem.Obj.mk (PySem.Value.type "dict") none (PySem.Data.dict (List.toArray [(PySem.DictEntry.mk (PySem.PyData.keyHash P (PySem.Str.ofString "__name__")) (PySem.Value.str (PySem.Str.ofString "__name__") (165 : Nat)) (PySem.Value.str (PySem.Str.ofString "law_on0162_01") (427 : Nat))), (PySem.DictEntry.mk (PySem.PyData.keyHash P (PySem.Str.ofString "__doc__")) (PySem.Value.str (PySem.Str.ofString "__doc__") (166 : Nat)) PySem.Value.none), (PySem.DictEntry.mk (PySem.PyData.keyHash P (PySem.Str.ofString "__package__")) (PySem.Value.str (PySem.Str.ofString "__package__") (167 : Nat)) PySem.Value.none), (PySem.DictEntry.mk (PySem.PyData.keyHash P (PySem.Str.ofString "__loader__")) (PySem.Value.str (PySem.Str.ofString "__loader__") (168 : Nat)) (PySem.Value.builtin "__main__.__loader__#opaque")), (PySem.DictEntry.mk (PySem.PyData.keyHash P (PySem.Str.ofString "__spec__")) (PySem.Value.str (PySem.Str.ofString "__spec__") (169 : Nat)) PySem.Value.none), (PySem.DictEntry.mk (PySem.PyData.keyHash P (PySem.Str.ofString "__annotations__")) (PySem.Value.str (PySem.Str.ofString "__annotations__") (170 : Nat)) (PySem.Value.ref (6 : Nat))), (PySem.DictEntry.mk (PySem.PyData.keyHash P (PySem.Str.ofString "__builtins__")) (PySem.Value.str (PySem.Str.ofString "__builtins__") (171 : Nat)) (PySem.Value.ref (4 : Nat))), (PySem.DictEntry.mk (PySem.PyData.keyHash P (PySem.Str.ofString "__file__")) (PySem.Value.str (PySem.Str.ofString "__file__") (173 : Nat)) (PySem.Value.str (PySem.Str.ofString "/claim/cut.py") (172 : Nat))), (PySem.DictEntry.mk (PySem.PyData.keyHash P (PySem.Str.ofString "__cached__")) (PySem.Value.str (PySem.Str.ofString "__cached__") (174 : Nat)) PySem.Value.none), (PySem.DictEntry.mk (PySem.PyData.keyHash P (PySem.Str.ofString "_wall")) (PySem.Value.str (PySem.Str.ofString "_wall") (193 : Nat)) (PySem.Value.ref (21 : Nat))), (PySem.DictEntry.mk (PySem.PyData.keyHash P (PySem.Str.ofString "SMALL")) (PySem.Value.str (PySem.Str.ofString "SMALL") (197 : Nat)) (PySem.Value.str (PySem.Str.ofString "abcdefghijklmnopqrstuvwxyz") (196 : Nat))), (PySem.DictEntry.mk (PySem.PyData.keyHash P (PySem.Str.ofString "LETTERS")) (PySem.Value.str (PySem.Str.ofString "LETTERS") (200 : Nat)) (PySem.Value.str (PySem.Str.ofString "abcdefghijklmnopqrstuvwxyzABCDEFGHIJKLMNOPQRSTUVWXYZ") (199 : Nat))), (PySem.DictEntry.mk (PySem.PyData.keyHash P (PySem.Str.ofString "FIGURES")) (PySem.Value.str (PySem.Str.ofString "FIGURES") (202 : Nat)) (PySem.Value.str (PySem.Str.ofString "0123456789") (201 : Nat))), (PySem.DictEntry.mk (PySem.PyData.keyHash P (PySem.Str.ofString "NAME_SIGNS")) (PySem.Value.str (PySem.Str.ofString "NAME_SIGNS") (206 : Nat)) (PySem.Value.str (PySem.Str.ofString "abcdefghijklmnopqrstuvwxyzABCDEFGHIJKLMNOPQRSTUVWXYZ_0123456789") (205 : Nat))), (PySem.DictEntry.mk (PySem.PyData.keyHash P (PySem.Str.ofString "HEX_SIGNS")) (PySem.Value.str (PySem.Str.ofString "HEX_SIGNS") (209 : Nat)) (PySem.Value.str (PySem.Str.ofString "0123456789abcdefABCDEF") (208 : Nat))), (PySem.DictEntry.mk (PySem.PyData.keyHash P (PySem.Str.ofString "OCTAL_SIGNS")) (PySem.Value.str (PySem.Str.ofString "OCTAL_SIGNS") (211 : Nat)) (PySem.Value.str (PySem.Str.ofString "01234567") (210 : Nat))), (PySem.DictEntry.mk (PySem.PyData.keyHash P (PySem.Str.ofString "MOST_FIGURES")) (PySem.Value.str (PySem.Str.ofString "MOST_FIGURES") (213 : Nat)) (PySem.Value.int 4000 (212 : Nat))), (PySem.DictEntry.mk (PySem.PyData.keyHash P (PySem.Str.ofString "PLAIN_ESCAPES")) (PySem.Value.str (PySem.Str.ofString "PLAIN_ESCAPES") (235 : Nat)) (PySem.Value.ref (22 : Nat))), (PySem.DictEntry.mk (PySem.PyData.keyHash P (PySem.Str.ofString "Cursor")) (PySem.Value.str (PySem.Str.ofString "Cursor") (395 : Nat)) (PySem.Value.ref (147 : Nat))), (PySem.DictEntry.mk (PySem.PyData.keyHash P (PySem.Str.ofString "hex_escape")) (PySem.Value.str (PySem.Str.ofString "hex_escape") (403 : Nat)) (PySem.Value.ref (158 : Nat))), (PySem.DictEntry.mk (PySem.PyData.keyHash P (PySem.Str.ofString "escaped_sign")) (PySem.Value.str (PySem.Str.ofString "escaped_sign") (412 : Nat)) (PySem.Value.ref (165 : Nat))), (PySem.DictEntry.mk (PySem.PyData.keyHash P (PySem.Str.ofString "escaped")) (PySem.Value.str (PySem.Str.ofString "escaped") (418 : Nat)) (PySem.Value.ref (170 : Nat))), (PySem.DictEntry.mk (PySem.PyData.keyHash P (PySem.Str.ofString "show_value")) (PySem.Value.str (PySem.Str.ofString "show_value") (426 : Nat)) (PySem.Value.ref (175 : Nat))), (PySem.DictEntry.mk (PySem.PyData.keyHash P (PySem.Str.ofString "_law_pen")) (PySem.Value.str (PySem.Str.ofString "_law_pen") (434 : Nat)) (PySem.Value.ref (180 : Nat))), (PySem.DictEntry.mk (PySem.PyData.keyHash P (PySem.Str.ofString "_law_draw")) (PySem.Value.str (PySem.Str.ofString "_law_draw") (444 : Nat)) (PySem.Value.ref (187 : Nat))), (PySem.DictEntry.mk (PySem.PyData.keyHash P (PySem.Str.ofString "_law_signs")) (PySem.Value.str (PySem.Str.ofString "_law_signs") (461 : Nat)) (PySem.Value.ref (188 : Nat))), (PySem.DictEntry.mk (PySem.PyData.keyHash P (PySem.Str.ofString "_law_word")) (PySem.Value.str (PySem.Str.ofString "_law_word") (467 : Nat)) (PySem.Value.ref (193 : Nat))), (PySem.DictEntry.mk (PySem.PyData.keyHash P (PySem.Str.ofString "_law_value")) (PySem.Value.str (PySem.Str.ofString "_law_value") (473 : Nat)) (PySem.Value.ref (198 : Nat))), (PySem.DictEntry.mk (PySem.PyData.keyHash P (PySem.Str.ofString "_law_read")) (PySem.Value.str (PySem.Str.ofString "_law_read") (483 : Nat)) (PySem.Value.ref (205 : Nat))), (PySem.DictEntry.mk (PySem.PyData.keyHash P (PySem.Str.ofString "law")) (PySem.Value.str (PySem.Str.ofString "law") (500 : Nat)) (PySem.Value.ref (212 : Nat)))]) (30 : Nat)) (List.toArray []))) ::
    ((nat_lit 15), (PySem.Obj.mk (PySem.Value.type "tuple") none (PySem.Data.seq (List.toArray []) (0 : Nat)) (List.toArray []))) ::
    ((nat_lit 17), (PySem.Obj.mk (PySem.Value.type "tuple") none (PySem.Data.seq (List.toArray [(PySem.Value.str (PySem.Str.ofString "k") (190 : Nat))]) (0 : Nat)) (List.toArray []))) ::
    ((nat_lit 18), (PySem.Obj.mk (PySem.Value.type "tuple") none (PySem.Data.seq (List.toArray []) (0 : Nat)) (List.toArray []))) ::
    ((nat_lit 20), (PySem.Obj.mk (PySem.Value.type "code") none (PySem.Data.fields (List.toArray [(PySem.Value.str (PySem.Str.ofString "_wall") (187 : Nat)), (PySem.Value.str (PySem.Str.ofString "_wall") (188 : Nat)), (PySem.Value.str (PySem.Str.ofString "/claim/cut.py") (189 : Nat)), (PySem.Value.int 1 (0 : Nat)), (PySem.Value.int 1 (0 : Nat)), (PySem.Value.int 0 (0 : Nat)), (PySem.Value.int 0 (0 : Nat)), (PySem.Value.int 3 (0 : Nat)), (PySem.Value.ref (15 : Nat)), (PySem.Value.bool true), (PySem.Value.int 181 (0 : Nat)), (PySem.Value.ref (16 : Nat)), PySem.Value.none, (PySem.Value.ref (17 : Nat)), (PySem.Value.ref (18 : Nat)), (PySem.Value.ref (19 : Nat)), (PySem.Value.int 191 (0 : Nat)), (PySem.Value.int 1 (0 : Nat)), (PySem.Value.str (PySem.Str.ofString "/claim/cut.py") (192 : Nat))])) (List.toArray []))) ::
    ((nat_lit 21), (PySem.Obj.mk (PySem.Value.type "function") none (PySem.Data.func (PySem.FuncData.mk (PySem.Str.ofString "_wall") (PySem.Str.ofString "_wall") a0 (FuncBody.stmts b0) s0 (3 : Nat) [] PySem.Value.none PySem.Value.none PySem.Value.none (PySem.Value.str (PySem.Str.ofString "__main__") (164 : Nat)) none (PySem.Value.ref (20 : Nat)) PySem.Value.none (0 : Nat))) (List.toArray []))) ::
    ((nat_lit 22), (PySem.Obj.mk (PySem.Value.type "dict") none (PySem.Data.dict (List.toArray [(PySem.DictEntry.mk (PySem.PyData.keyHash P (PySem.Str.ofString "n")) (PySem.Value.str (PySem.Str.ofString "n") (214 : Nat)) (PySem.Value.int 10 (215 : Nat))), (PySem.DictEntry.mk (PySem.PyData.keyHash P (PySem.Str.ofString "t")) (PySem.Value.str (PySem.Str.ofString "t") (216 : Nat)) (PySem.Value.int 9 (217 : Nat))), (PySem.DictEntry.mk (PySem.PyData.keyHash P (PySem.Str.ofString "r")) (PySem.Value.str (PySem.Str.ofString "r") (218 : Nat)) (PySem.Value.int 13 (219 : Nat))), (PySem.DictEntry.mk (PySem.PyData.keyHash P (PySem.Str.ofString "f")) (PySem.Value.str (PySem.Str.ofString "f") (220 : Nat)) (PySem.Value.int 12 (221 : Nat))), (PySem.DictEntry.mk (PySem.PyData.keyHash P (PySem.Str.ofString "v")) (PySem.Value.str (PySem.Str.ofString "v") (222 : Nat)) (PySem.Value.int 11 (223 : Nat))), (PySem.DictEntry.mk (PySem.PyData.keyHash P (PySem.Str.ofString "a")) (PySem.Value.str (PySem.Str.ofString "a") (224 : Nat)) (PySem.Value.int 7 (225 : Nat))), (PySem.DictEntry.mk (PySem.PyData.keyHash P (PySem.Str.ofString "b")) (PySem.Value.str (PySem.Str.ofString "b") (226 : Nat)) (PySem.Value.int 8 (227 : Nat)))]) (7 : Nat)) (List.toArray []))) ::
    ((nat_lit 30), (PySem.Obj.mk (PySem.Value.type "tuple") none (PySem.Data.seq (List.toArray [(PySem.Value.int 0 (248 : Nat))]) (0 : Nat)) (List.toArray []))) ::
    ((nat_lit 31), (PySem.Obj.mk (PySem.Value.type "tuple") none (PySem.Data.seq (List.toArray []) (0 : Nat)) (List.toArray []))) ::
    ((nat_lit 33), (PySem.Obj.mk (PySem.Value.type "tuple") none (PySem.Data.seq (List.toArray [(PySem.Value.str (PySem.Str.ofString "self") (252 : Nat)), (PySem.Value.str (PySem.Str.ofString "text") (253 : Nat)), (PySem.Value.str (PySem.Str.ofString "at") (254 : Nat))]) (0 : Nat)) (List.toArray []))) ::
    ((nat_lit 34), (PySem.Obj.mk (PySem.Value.type "tuple") none (PySem.Data.seq (List.toArray []) (0 : Nat)) (List.toArray []))) ::
    ((nat_lit 36), (PySem.Obj.mk (PySem.Value.type "code") none (PySem.Data.fields (List.toArray [(PySem.Value.str (PySem.Str.ofString "__init__") (249 : Nat)), (PySem.Value.str (PySem.Str.ofString "Cursor.__init__") (250 : Nat)), (PySem.Value.str (PySem.Str.ofString "/claim/cut.py") (251 : Nat)), (PySem.Value.int 15 (0 : Nat)), (PySem.Value.int 3 (0 : Nat)), (PySem.Value.int 0 (0 : Nat)), (PySem.Value.int 0 (0 : Nat)), (PySem.Value.int 3 (0 : Nat)), (PySem.Value.ref (31 : Nat)), (PySem.Value.bool true), (PySem.Value.int 181 (0 : Nat)), (PySem.Value.ref (32 : Nat)), PySem.Value.none, (PySem.Value.ref (33 : Nat)), (PySem.Value.ref (34 : Nat)), (PySem.Value.ref (35 : Nat)), (PySem.Value.int 255 (0 : Nat)), (PySem.Value.int 15 (0 : Nat)), (PySem.Value.str (PySem.Str.ofString "/claim/cut.py") (256 : Nat))])) (List.toArray []))) ::
    ((nat_lit 37), (PySem.Obj.mk (PySem.Value.type "function") none (PySem.Data.func (PySem.FuncData.mk (PySem.Str.ofString "__init__") (PySem.Str.ofString "Cursor.__init__") a1 (FuncBody.stmts b1) s1 (3 : Nat) [] (PySem.Value.ref (30 : Nat)) PySem.Value.none PySem.Value.none (PySem.Value.str (PySem.Str.ofString "grammarmill.source") (194 : Nat)) none (PySem.Value.ref (36 : Nat)) PySem.Value.none (0 : Nat))) (List.toArray []))) ::
    ((nat_lit 38), (PySem.Obj.mk (PySem.Value.type "tuple") none (PySem.Data.seq (List.toArray []) (0 : Nat)) (List.toArray []))) ::
    ((nat_lit 40), (PySem.Obj.mk (PySem.Value.type "tuple") none (PySem.Data.seq (List.toArray [(PySem.Value.str (PySem.Str.ofString "self") (261 : Nat))]) (0 : Nat)) (List.toArray []))) ::
    ((nat_lit 41), (PySem.Obj.mk (PySem.Value.type "tuple") none (PySem.Data.seq (List.toArray []) (0 : Nat)) (List.toArray []))) ::
    ((nat_lit 43), (PySem.Obj.mk (PySem.Value.type "code") none (PySem.Data.fields (List.toArray [(PySem.Value.str (PySem.Str.ofString "is_done") (258 : Nat)), (PySem.Value.str (PySem.Str.ofString "Cursor.is_done") (259 : Nat)), (PySem.Value.str (PySem.Str.ofString "/claim/cut.py") (260 : Nat)), (PySem.Value.int 19 (0 : Nat)), (PySem.Value.int 1 (0 : Nat)), (PySem.Value.int 0 (0 : Nat)), (PySem.Value.int 0 (0 : Nat)), (PySem.Value.int 3 (0 : Nat)), (PySem.Value.ref (38 : Nat)), (PySem.Value.bool true), (PySem.Value.int 181 (0 : Nat)), (PySem.Value.ref (39 : Nat)), PySem.Value.none, (PySem.Value.ref (40 : Nat)), (PySem.Value.ref (41 : Nat)), (PySem.Value.ref (42 : Nat)), (PySem.Value.int 262 (0 : Nat)), (PySem.Value.int 19 (0 : Nat)), (PySem.Value.str (PySem.Str.ofString "/claim/cut.py") (263 : Nat))])) (List.toArray []))) ::
    ((nat_lit 44), (PySem.Obj.mk (PySem.Value.type "function") none (PySem.Data.func (PySem.FuncData.mk (PySem.Str.ofString "is_done") (PySem.Str.ofString "Cursor.is_done") a2 (FuncBody.stmts b2) s2 (3 : Nat) [] PySem.Value.none PySem.Value.none PySem.Value.none (PySem.Value.str (PySem.Str.ofString "grammarmill.source") (194 : Nat)) none (PySem.Value.ref (43 : Nat)) PySem.Value.none (0 : Nat))) (List.toArray []))) ::
    ((nat_lit 45), (PySem.Obj.mk (PySem.Value.type "tuple") none (PySem.Data.seq (List.toArray [(PySem.Value.int 0 (265 : Nat))]) (0 : Nat)) (List.toArray []))) ::
    ((nat_lit 46), (PySem.Obj.mk (PySem.Value.type "tuple") none (PySem.Data.seq (List.toArray []) (0 : Nat)) (List.toArray []))) ::
    ((nat_lit 48), (PySem.Obj.mk (PySem.Value.type "tuple") none (PySem.Data.seq (List.toArray [(PySem.Value.str (PySem.Str.ofString "self") (269 : Nat)), (PySem.Value.str (PySem.Str.ofString "ahead") (270 : Nat)), (PySem.Value.str (PySem.Str.ofString "at") (271 : Nat))]) (0 : Nat)) (List.toArray []))) ::
    ((nat_lit 49), (PySem.Obj.mk (PySem.Value.type "tuple") none (PySem.Data.seq (List.toArray []) (0 : Nat)) (List.toArray []))) ::
    ((nat_lit 51), (PySem.Obj.mk (PySem.Value.type "code") none (PySem.Data.fields (List.toArray [(PySem.Value.str (PySem.Str.ofString "peek") (266 : Nat)), (PySem.Value.str (PySem.Str.ofString "Cursor.peek") (267 : Nat)), (PySem.Value.str (PySem.Str.ofString "/claim/cut.py") (268 : Nat)), (PySem.Value.int 22 (0 : Nat)), (PySem.Value.int 2 (0 : Nat)), (PySem.Value.int 0 (0 : Nat)), (PySem.Value.int 0 (0 : Nat)), (PySem.Value.int 3 (0 : Nat)), (PySem.Value.ref (46 : Nat)), (PySem.Value.bool true), (PySem.Value.int 181 (0 : Nat)), (PySem.Value.ref (47 : Nat)), PySem.Value.none, (PySem.Value.ref (48 : Nat)), (PySem.Value.ref (49 : Nat)), (PySem.Value.ref (50 : Nat)), (PySem.Value.int 272 (0 : Nat)), (PySem.Value.int 22 (0 : Nat)), (PySem.Value.str (PySem.Str.ofString "/claim/cut.py") (273 : Nat))])) (List.toArray []))) ::
    ((nat_lit 52), (PySem.Obj.mk (PySem.Value.type "function") none (PySem.Data.func (PySem.FuncData.mk (PySem.Str.ofString "peek") (PySem.Str.ofString "Cursor.peek") a3 (FuncBody.stmts b3) s3 (3 : Nat) [] (PySem.Value.ref (45 : Nat)) PySem.Value.none PySem.Value.none (PySem.Value.str (PySem.Str.ofString "grammarmill.source") (194 : Nat)) none (PySem.Value.ref (51 : Nat)) PySem.Value.none (0 : Nat))) (List.toArray []))) ::
    ((nat_lit 53), (PySem.Obj.mk (PySem.Value.type "tuple") none (PySem.Data.seq (List.toArray []) (0 : Nat)) (List.toArray []))) ::
    ((nat_lit 55), (PySem.Obj.mk (PySem.Value.type "tuple") none (PySem.Data.seq (List.toArray [(PySem.Value.str (PySem.Str.ofString "self") (278 : Nat)), (PySem.Value.str (PySem.Str.ofString "word") (279 : Nat))]) (0 : Nat)) (List.toArray []))) ::
    ((nat_lit 56), (PySem.Obj.mk (PySem.Value.type "tuple") none (PySem.Data.seq (List.toArray []) (0 : Nat)) (List.toArray []))) ::
    ((nat_lit 58), (PySem.Obj.mk (PySem.Value.type "code") none (PySem.Data.fields (List.toArray [(PySem.Value.str (PySem.Str.ofString "starts") (275 : Nat)), (PySem.Value.str (PySem.Str.ofString "Cursor.starts") (276 : Nat)), (PySem.Value.str (PySem.Str.ofString "/claim/cut.py") (277 : Nat)), (PySem.Value.int 28 (0 : Nat)), (PySem.Value.int 2 (0 : Nat)), (PySem.Value.int 0 (0 : Nat)), (PySem.Value.int 0 (0 : Nat)), (PySem.Value.int 3 (0 : Nat)), (PySem.Value.ref (53 : Nat)), (PySem.Value.bool true), (PySem.Value.int 181 (0 : Nat)), (PySem.Value.ref (54 : Nat)), PySem.Value.none, (PySem.Value.ref (55 : Nat)), (PySem.Value.ref (56 : Nat)), (PySem.Value.ref (57 : Nat)), (PySem.Value.int 280 (0 : Nat)), (PySem.Value.int 28 (0 : Nat)), (PySem.Value.str (PySem.Str.ofString "/claim/cut.py") (281 : Nat))])) (List.toArray []))) ::
    ((nat_lit 59), (PySem.Obj.mk (PySem.Value.type "function") none (PySem.Data.func (PySem.FuncData.mk (PySem.Str.ofString "starts") (PySem.Str.ofString "Cursor.starts") a4 (FuncBody.stmts b4) s4 (3 : Nat) [] PySem.Value.none PySem.Value.none PySem.Value.none (PySem.Value.str (PySem.Str.ofString "grammarmill.source") (194 : Nat)) none (PySem.Value.ref (58 : Nat)) PySem.Value.none (0 : Nat))) (List.toArray []))) ::
    ((nat_lit 60), (PySem.Obj.mk (PySem.Value.type "tuple") none (PySem.Data.seq (List.toArray []) (0 : Nat)) (List.toArray []))) ::
    ((nat_lit 62), (PySem.Obj.mk (PySem.Value.type "tuple") none (PySem.Data.seq (List.toArray [(PySem.Value.str (PySem.Str.ofString "self") (286 : Nat)), (PySem.Value.str (PySem.Str.ofString "sign") (287 : Nat))]) (0 : Nat)) (List.toArray []))) ::
    ((nat_lit 63), (PySem.Obj.mk (PySem.Value.type "tuple") none (PySem.Data.seq (List.toArray []) (0 : Nat)) (List.toArray []))) ::
    ((nat_lit 65), (PySem.Obj.mk (PySem.Value.type "code") none (PySem.Data.fields (List.toArray [(PySem.Value.str (PySem.Str.ofString "take") (283 : Nat)), (PySem.Value.str (PySem.Str.ofString "Cursor.take") (284 : Nat)), (PySem.Value.str (PySem.Str.ofString "/claim/cut.py") (285 : Nat)), (PySem.Value.int 31 (0 : Nat)), (PySem.Value.int 1 (0 : Nat)), (PySem.Value.int 0 (0 : Nat)), (PySem.Value.int 0 (0 : Nat)), (PySem.Value.int 3 (0 : Nat)), (PySem.Value.ref (60 : Nat)), (PySem.Value.bool true), (PySem.Value.int 181 (0 : Nat)), (PySem.Value.ref (61 : Nat)), PySem.Value.none, (PySem.Value.ref (62 : Nat)), (PySem.Value.ref (63 : Nat)), (PySem.Value.ref (64 : Nat)), (PySem.Value.int 288 (0 : Nat)), (PySem.Value.int 31 (0 : Nat)), (PySem.Value.str (PySem.Str.ofString "/claim/cut.py") (289 : Nat))])) (List.toArray []))) ::
    ((nat_lit 66), (PySem.Obj.mk (PySem.Value.type "function") none (PySem.Data.func (PySem.FuncData.mk (PySem.Str.ofString "take") (PySem.Str.ofString "Cursor.take") a5 (FuncBody.stmts b5) s5 (3 : Nat) [] PySem.Value.none PySem.Value.none PySem.Value.none (PySem.Value.str (PySem.Str.ofString "grammarmill.source") (194 : Nat)) none (PySem.Value.ref (65 : Nat)) PySem.Value.none (0 : Nat))) (List.toArray []))) ::
    ((nat_lit 67), (PySem.Obj.mk (PySem.Value.type "tuple") none (PySem.Data.seq (List.toArray []) (0 : Nat)) (List.toArray []))) ::
    ((nat_lit 69), (PySem.Obj.mk (PySem.Value.type "tuple") none (PySem.Data.seq (List.toArray [(PySem.Value.str (PySem.Str.ofString "self") (294 : Nat)), (PySem.Value.str (PySem.Str.ofString "word") (295 : Nat))]) (0 : Nat)) (List.toArray []))) ::
    ((nat_lit 70), (PySem.Obj.mk (PySem.Value.type "tuple") none (PySem.Data.seq (List.toArray []) (0 : Nat)) (List.toArray []))) ::
    ((nat_lit 72), (PySem.Obj.mk (PySem.Value.type "code") none (PySem.Data.fields (List.toArray [(PySem.Value.str (PySem.Str.ofString "skip") (291 : Nat)), (PySem.Value.str (PySem.Str.ofString "Cursor.skip") (292 : Nat)), (PySem.Value.str (PySem.Str.ofString "/claim/cut.py") (293 : Nat)), (PySem.Value.int 38 (0 : Nat)), (PySem.Value.int 2 (0 : Nat)), (PySem.Value.int 0 (0 : Nat)), (PySem.Value.int 0 (0 : Nat)), (PySem.Value.int 3 (0 : Nat)), (PySem.Value.ref (67 : Nat)), (PySem.Value.bool true), (PySem.Value.int 181 (0 : Nat)), (PySem.Value.ref (68 : Nat)), PySem.Value.none, (PySem.Value.ref (69 : Nat)), (PySem.Value.ref (70 : Nat)), (PySem.Value.ref (71 : Nat)), (PySem.Value.int 296 (0 : Nat)), (PySem.Value.int 38 (0 : Nat)), (PySem.Value.str (PySem.Str.ofString "/claim/cut.py") (297 : Nat))])) (List.toArray []))) ::
    ((nat_lit 73), (PySem.Obj.mk (PySem.Value.type "function") none (PySem.Data.func (PySem.FuncData.mk (PySem.Str.ofString "skip") (PySem.Str.ofString "Cursor.skip") a6 (FuncBody.stmts b6) s6 (3 : Nat) [] PySem.Value.none PySem.Value.none PySem.Value.none (PySem.Value.str (PySem.Str.ofString "grammarmill.source") (194 : Nat)) none (PySem.Value.ref (72 : Nat)) PySem.Value.none (0 : Nat))) (List.toArray []))) ::
    ((nat_lit 74), (PySem.Obj.mk (PySem.Value.type "tuple") none (PySem.Data.seq (List.toArray []) (0 : Nat)) (List.toArray []))) ::
    ((nat_lit 76), (PySem.Obj.mk (PySem.Value.type "tuple") none (PySem.Data.seq (List.toArray [(PySem.Value.str (PySem.Str.ofString "self") (302 : Nat)), (PySem.Value.str (PySem.Str.ofString "signs") (303 : Nat)), (PySem.Value.str (PySem.Str.ofString "begun") (304 : Nat))]) (0 : Nat)) (List.toArray []))) ::
    ((nat_lit 77), (PySem.Obj.mk (PySem.Value.type "tuple") none (PySem.Data.seq (List.toArray []) (0 : Nat)) (List.toArray []))) ::
    ((nat_lit 79), (PySem.Obj.mk (PySem.Value.type "code") none (PySem.Data.fields (List.toArray [(PySem.Value.str (PySem.Str.ofString "take_while") (299 : Nat)), (PySem.Value.str (PySem.Str.ofString "Cursor.take_while") (300 : Nat)), (PySem.Value.str (PySem.Str.ofString "/claim/cut.py") (301 : Nat)), (PySem.Value.int 44 (0 : Nat)), (PySem.Value.int 2 (0 : Nat)), (PySem.Value.int 0 (0 : Nat)), (PySem.Value.int 0 (0 : Nat)), (PySem.Value.int 3 (0 : Nat)), (PySem.Value.ref (74 : Nat)), (PySem.Value.bool true), (PySem.Value.int 181 (0 : Nat)), (PySem.Value.ref (75 : Nat)), PySem.Value.none, (PySem.Value.ref (76 : Nat)), (PySem.Value.ref (77 : Nat)), (PySem.Value.ref (78 : Nat)), (PySem.Value.int 305 (0 : Nat)), (PySem.Value.int 44 (0 : Nat)), (PySem.Value.str (PySem.Str.ofString "/claim/cut.py") (306 : Nat))])) (List.toArray []))) ::
    ((nat_lit 80), (PySem.Obj.mk (PySem.Value.type "function") none (PySem.Data.func (PySem.FuncData.mk (PySem.Str.ofString "take_while") (PySem.Str.ofString "Cursor.take_while") a7 (FuncBody.stmts b7) s7 (3 : Nat) [] PySem.Value.none PySem.Value.none PySem.Value.none (PySem.Value.str (PySem.Str.ofString "grammarmill.source") (194 : Nat)) none (PySem.Value.ref (79 : Nat)) PySem.Value.none (0 : Nat))) (List.toArray []))) ::
    ((nat_lit 81), (PySem.Obj.mk (PySem.Value.type "tuple") none (PySem.Data.seq (List.toArray []) (0 : Nat)) (List.toArray []))) ::
    ((nat_lit 83), (PySem.Obj.mk (PySem.Value.type "tuple") none (PySem.Data.seq (List.toArray [(PySem.Value.str (PySem.Str.ofString "self") (311 : Nat))]) (0 : Nat)) (List.toArray []))) ::
    ((nat_lit 84), (PySem.Obj.mk (PySem.Value.type "tuple") none (PySem.Data.seq (List.toArray []) (0 : Nat)) (List.toArray []))) ::
    ((nat_lit 86), (PySem.Obj.mk (PySem.Value.type "code") none (PySem.Data.fields (List.toArray [(PySem.Value.str (PySem.Str.ofString "take_line") (308 : Nat)), (PySem.Value.str (PySem.Str.ofString "Cursor.take_line") (309 : Nat)), (PySem.Value.str (PySem.Str.ofString "/claim/cut.py") (310 : Nat)), (PySem.Value.int 50 (0 : Nat)), (PySem.Value.int 1 (0 : Nat)), (PySem.Value.int 0 (0 : Nat)), (PySem.Value.int 0 (0 : Nat)), (PySem.Value.int 3 (0 : Nat)), (PySem.Value.ref (81 : Nat)), (PySem.Value.bool true), (PySem.Value.int 181 (0 : Nat)), (PySem.Value.ref (82 : Nat)), PySem.Value.none, (PySem.Value.ref (83 : Nat)), (PySem.Value.ref (84 : Nat)), (PySem.Value.ref (85 : Nat)), (PySem.Value.int 312 (0 : Nat)), (PySem.Value.int 50 (0 : Nat)), (PySem.Value.str (PySem.Str.ofString "/claim/cut.py") (313 : Nat))])) (List.toArray []))) ::
    ((nat_lit 87), (PySem.Obj.mk (PySem.Value.type "function") none (PySem.Data.func (PySem.FuncData.mk (PySem.Str.ofString "take_line") (PySem.Str.ofString "Cursor.take_line") a8 (FuncBody.stmts b8) s8 (3 : Nat) [] PySem.Value.none PySem.Value.none PySem.Value.none (PySem.Value.str (PySem.Str.ofString "grammarmill.source") (194 : Nat)) none (PySem.Value.ref (86 : Nat)) PySem.Value.none (0 : Nat))) (List.toArray []))) ::
    ((nat_lit 88), (PySem.Obj.mk (PySem.Value.type "tuple") none (PySem.Data.seq (List.toArray [(PySem.Value.str (PySem.Str.ofString " \t") (315 : Nat))]) (0 : Nat)) (List.toArray []))) ::
    ((nat_lit 89), (PySem.Obj.mk (PySem.Value.type "tuple") none (PySem.Data.seq (List.toArray []) (0 : Nat)) (List.toArray []))) ::
    ((nat_lit 91), (PySem.Obj.mk (PySem.Value.type "tuple") none (PySem.Data.seq (List.toArray [(PySem.Value.str (PySem.Str.ofString "self") (319 : Nat)), (PySem.Value.str (PySem.Str.ofString "signs") (320 : Nat))]) (0 : Nat)) (List.toArray []))) ::
    ((nat_lit 92), (PySem.Obj.mk (PySem.Value.type "tuple") none (PySem.Data.seq (List.toArray []) (0 : Nat)) (List.toArray []))) ::
    ((nat_lit 94), (PySem.Obj.mk (PySem.Value.type "code") none (PySem.Data.fields (List.toArray [(PySem.Value.str (PySem.Str.ofString "skip_blanks") (316 : Nat)), (PySem.Value.str (PySem.Str.ofString "Cursor.skip_blanks") (317 : Nat)), (PySem.Value.str (PySem.Str.ofString "/claim/cut.py") (318 : Nat)), (PySem.Value.int 53 (0 : Nat)), (PySem.Value.int 2 (0 : Nat)), (PySem.Value.int 0 (0 : Nat)), (PySem.Value.int 0 (0 : Nat)), (PySem.Value.int 3 (0 : Nat)), (PySem.Value.ref (89 : Nat)), (PySem.Value.bool true), (PySem.Value.int 181 (0 : Nat)), (PySem.Value.ref (90 : Nat)), PySem.Value.none, (PySem.Value.ref (91 : Nat)), (PySem.Value.ref (92 : Nat)), (PySem.Value.ref (93 : Nat)), (PySem.Value.int 321 (0 : Nat)), (PySem.Value.int 53 (0 : Nat)), (PySem.Value.str (PySem.Str.ofString "/claim/cut.py") (322 : Nat))])) (List.toArray []))) ::
    ((nat_lit 95), (PySem.Obj.mk (PySem.Value.type "function") none (PySem.Data.func (PySem.FuncData.mk (PySem.Str.ofString "skip_blanks") (PySem.Str.ofString "Cursor.skip_blanks") a9 (FuncBody.stmts b9) s9 (3 : Nat) [] (PySem.Value.ref (88 : Nat)) PySem.Value.none PySem.Value.none (PySem.Value.str (PySem.Str.ofString "grammarmill.source") (194 : Nat)) none (PySem.Value.ref (94 : Nat)) PySem.Value.none (0 : Nat))) (List.toArray []))) ::
    ((nat_lit 96), (PySem.Obj.mk (PySem.Value.type "tuple") none (PySem.Data.seq (List.toArray []) (0 : Nat)) (List.toArray []))) ::
    ((nat_lit 98), (PySem.Obj.mk (PySem.Value.type "tuple") none (PySem.Data.seq (List.toArray [(PySem.Value.str (PySem.Str.ofString "self") (327 : Nat)), (PySem.Value.str (PySem.Str.ofString "here") (328 : Nat))]) (0 : Nat)) (List.toArray []))) ::
    ((nat_lit 99), (PySem.Obj.mk (PySem.Value.type "tuple") none (PySem.Data.seq (List.toArray []) (0 : Nat)) (List.toArray []))) ::
    ((nat_lit 101), (PySem.Obj.mk (PySem.Value.type "code") none (PySem.Data.fields (List.toArray [(PySem.Value.str (PySem.Str.ofString "name") (324 : Nat)), (PySem.Value.str (PySem.Str.ofString "Cursor.name") (325 : Nat)), (PySem.Value.str (PySem.Str.ofString "/claim/cut.py") (326 : Nat)), (PySem.Value.int 56 (0 : Nat)), (PySem.Value.int 1 (0 : Nat)), (PySem.Value.int 0 (0 : Nat)), (PySem.Value.int 0 (0 : Nat)), (PySem.Value.int 3 (0 : Nat)), (PySem.Value.ref (96 : Nat)), (PySem.Value.bool true), (PySem.Value.int 181 (0 : Nat)), (PySem.Value.ref (97 : Nat)), PySem.Value.none, (PySem.Value.ref (98 : Nat)), (PySem.Value.ref (99 : Nat)), (PySem.Value.ref (100 : Nat)), (PySem.Value.int 329 (0 : Nat)), (PySem.Value.int 56 (0 : Nat)), (PySem.Value.str (PySem.Str.ofString "/claim/cut.py") (330 : Nat))])) (List.toArray []))) ::
    ((nat_lit 102), (PySem.Obj.mk (PySem.Value.type "function") none (PySem.Data.func (PySem.FuncData.mk (PySem.Str.ofString "name") (PySem.Str.ofString "Cursor.name") a10 (FuncBody.stmts b10) s10 (3 : Nat) [] PySem.Value.none PySem.Value.none PySem.Value.none (PySem.Value.str (PySem.Str.ofString "grammarmill.source") (194 : Nat)) none (PySem.Value.ref (101 : Nat)) PySem.Value.none (0 : Nat))) (List.toArray []))) ::
    ((nat_lit 103), (PySem.Obj.mk (PySem.Value.type "tuple") none (PySem.Data.seq (List.toArray []) (0 : Nat)) (List.toArray []))) ::
    ((nat_lit 105), (PySem.Obj.mk (PySem.Value.type "tuple") none (PySem.Data.seq (List.toArray [(PySem.Value.str (PySem.Str.ofString "self") (335 : Nat)), (PySem.Value.str (PySem.Str.ofString "begun") (336 : Nat)), (PySem.Value.str (PySem.Str.ofString "figures") (337 : Nat))]) (0 : Nat)) (List.toArray []))) ::
    ((nat_lit 106), (PySem.Obj.mk (PySem.Value.type "tuple") none (PySem.Data.seq (List.toArray []) (0 : Nat)) (List.toArray []))) ::
    ((nat_lit 108), (PySem.Obj.mk (PySem.Value.type "code") none (PySem.Data.fields (List.toArray [(PySem.Value.str (PySem.Str.ofString "number") (332 : Nat)), (PySem.Value.str (PySem.Str.ofString "Cursor.number") (333 : Nat)), (PySem.Value.str (PySem.Str.ofString "/claim/cut.py") (334 : Nat)), (PySem.Value.int 62 (0 : Nat)), (PySem.Value.int 1 (0 : Nat)), (PySem.Value.int 0 (0 : Nat)), (PySem.Value.int 0 (0 : Nat)), (PySem.Value.int 3 (0 : Nat)), (PySem.Value.ref (103 : Nat)), (PySem.Value.bool true), (PySem.Value.int 181 (0 : Nat)), (PySem.Value.ref (104 : Nat)), PySem.Value.none, (PySem.Value.ref (105 : Nat)), (PySem.Value.ref (106 : Nat)), (PySem.Value.ref (107 : Nat)), (PySem.Value.int 338 (0 : Nat)), (PySem.Value.int 62 (0 : Nat)), (PySem.Value.str (PySem.Str.ofString "/claim/cut.py") (339 : Nat))])) (List.toArray []))) ::
    ((nat_lit 109), (PySem.Obj.mk (PySem.Value.type "function") none (PySem.Data.func (PySem.FuncData.mk (PySem.Str.ofString "number") (PySem.Str.ofString "Cursor.number") a11 (FuncBody.stmts b11) s11 (3 : Nat) [] PySem.Value.none PySem.Value.none PySem.Value.none (PySem.Value.str (PySem.Str.ofString "grammarmill.source") (194 : Nat)) none (PySem.Value.ref (108 : Nat)) PySem.Value.none (0 : Nat))) (List.toArray []))) ::
    ((nat_lit 110), (PySem.Obj.mk (PySem.Value.type "tuple") none (PySem.Data.seq (List.toArray []) (0 : Nat)) (List.toArray []))) ::
    ((nat_lit 112), (PySem.Obj.mk (PySem.Value.type "tuple") none (PySem.Data.seq (List.toArray [(PySem.Value.str (PySem.Str.ofString "self") (344 : Nat))]) (0 : Nat)) (List.toArray []))) ::
    ((nat_lit 113), (PySem.Obj.mk (PySem.Value.type "tuple") none (PySem.Data.seq (List.toArray []) (0 : Nat)) (List.toArray []))) ::
    ((nat_lit 115), (PySem.Obj.mk (PySem.Value.type "code") none (PySem.Data.fields (List.toArray [(PySem.Value.str (PySem.Str.ofString "position") (341 : Nat)), (PySem.Value.str (PySem.Str.ofString "Cursor.position") (342 : Nat)), (PySem.Value.str (PySem.Str.ofString "/claim/cut.py") (343 : Nat)), (PySem.Value.int 70 (0 : Nat)), (PySem.Value.int 1 (0 : Nat)), (PySem.Value.int 0 (0 : Nat)), (PySem.Value.int 0 (0 : Nat)), (PySem.Value.int 3 (0 : Nat)), (PySem.Value.ref (110 : Nat)), (PySem.Value.bool true), (PySem.Value.int 181 (0 : Nat)), (PySem.Value.ref (111 : Nat)), PySem.Value.none, (PySem.Value.ref (112 : Nat)), (PySem.Value.ref (113 : Nat)), (PySem.Value.ref (114 : Nat)), (PySem.Value.int 345 (0 : Nat)), (PySem.Value.int 70 (0 : Nat)), (PySem.Value.str (PySem.Str.ofString "/claim/cut.py") (346 : Nat))])) (List.toArray []))) ::
    ((nat_lit 116), (PySem.Obj.mk (PySem.Value.type "function") none (PySem.Data.func (PySem.FuncData.mk (PySem.Str.ofString "position") (PySem.Str.ofString "Cursor.position") a12 (FuncBody.stmts b12) s12 (3 : Nat) [] PySem.Value.none PySem.Value.none PySem.Value.none (PySem.Value.str (PySem.Str.ofString "grammarmill.source") (194 : Nat)) none (PySem.Value.ref (115 : Nat)) PySem.Value.none (0 : Nat))) (List.toArray []))) ::
    ((nat_lit 117), (PySem.Obj.mk (PySem.Value.type "tuple") none (PySem.Data.seq (List.toArray []) (0 : Nat)) (List.toArray []))) ::
    ((nat_lit 119), (PySem.Obj.mk (PySem.Value.type "tuple") none (PySem.Data.seq (List.toArray [(PySem.Value.str (PySem.Str.ofString "self") (351 : Nat)), (PySem.Value.str (PySem.Str.ofString "offset") (352 : Nat))]) (0 : Nat)) (List.toArray []))) ::
    ((nat_lit 120), (PySem.Obj.mk (PySem.Value.type "tuple") none (PySem.Data.seq (List.toArray []) (0 : Nat)) (List.toArray []))) ::
    ((nat_lit 122), (PySem.Obj.mk (PySem.Value.type "code") none (PySem.Data.fields (List.toArray [(PySem.Value.str (PySem.Str.ofString "position_at") (348 : Nat)), (PySem.Value.str (PySem.Str.ofString "Cursor.position_at") (349 : Nat)), (PySem.Value.str (PySem.Str.ofString "/claim/cut.py") (350 : Nat)), (PySem.Value.int 73 (0 : Nat)), (PySem.Value.int 2 (0 : Nat)), (PySem.Value.int 0 (0 : Nat)), (PySem.Value.int 0 (0 : Nat)), (PySem.Value.int 3 (0 : Nat)), (PySem.Value.ref (117 : Nat)), (PySem.Value.bool true), (PySem.Value.int 181 (0 : Nat)), (PySem.Value.ref (118 : Nat)), PySem.Value.none, (PySem.Value.ref (119 : Nat)), (PySem.Value.ref (120 : Nat)), (PySem.Value.ref (121 : Nat)), (PySem.Value.int 353 (0 : Nat)), (PySem.Value.int 73 (0 : Nat)), (PySem.Value.str (PySem.Str.ofString "/claim/cut.py") (354 : Nat))])) (List.toArray []))) ::
    ((nat_lit 123), (PySem.Obj.mk (PySem.Value.type "function") none (PySem.Data.func (PySem.FuncData.mk (PySem.Str.ofString "position_at") (PySem.Str.ofString "Cursor.position_at") a13 (FuncBody.stmts b13) s13 (3 : Nat) [] PySem.Value.none PySem.Value.none PySem.Value.none (PySem.Value.str (PySem.Str.ofString "grammarmill.source") (194 : Nat)) none (PySem.Value.ref (122 : Nat)) PySem.Value.none (0 : Nat))) (List.toArray []))) ::
    ((nat_lit 124), (PySem.Obj.mk (PySem.Value.type "tuple") none (PySem.Data.seq (List.toArray []) (0 : Nat)) (List.toArray []))) ::
    ((nat_lit 126), (PySem.Obj.mk (PySem.Value.type "tuple") none (PySem.Data.seq (List.toArray [(PySem.Value.str (PySem.Str.ofString "self") (359 : Nat)), (PySem.Value.str (PySem.Str.ofString "signs") (360 : Nat)), (PySem.Value.str (PySem.Str.ofString "most") (361 : Nat)), (PySem.Value.str (PySem.Str.ofString "base") (362 : Nat)), (PySem.Value.str (PySem.Str.ofString "code") (363 : Nat)), (PySem.Value.str (PySem.Str.ofString "taken") (364 : Nat))]) (0 : Nat)) (List.toArray []))) ::
    ((nat_lit 127), (PySem.Obj.mk (PySem.Value.type "tuple") none (PySem.Data.seq (List.toArray []) (0 : Nat)) (List.toArray []))) ::
    ((nat_lit 129), (PySem.Obj.mk (PySem.Value.type "code") none (PySem.Data.fields (List.toArray [(PySem.Value.str (PySem.Str.ofString "coded") (356 : Nat)), (PySem.Value.str (PySem.Str.ofString "Cursor.coded") (357 : Nat)), (PySem.Value.str (PySem.Str.ofString "/claim/cut.py") (358 : Nat)), (PySem.Value.int 76 (0 : Nat)), (PySem.Value.int 4 (0 : Nat)), (PySem.Value.int 0 (0 : Nat)), (PySem.Value.int 0 (0 : Nat)), (PySem.Value.int 3 (0 : Nat)), (PySem.Value.ref (124 : Nat)), (PySem.Value.bool true), (PySem.Value.int 181 (0 : Nat)), (PySem.Value.ref (125 : Nat)), PySem.Value.none, (PySem.Value.ref (126 : Nat)), (PySem.Value.ref (127 : Nat)), (PySem.Value.ref (128 : Nat)), (PySem.Value.int 365 (0 : Nat)), (PySem.Value.int 76 (0 : Nat)), (PySem.Value.str (PySem.Str.ofString "/claim/cut.py") (366 : Nat))])) (List.toArray []))) ::
    ((nat_lit 130), (PySem.Obj.mk (PySem.Value.type "function") none (PySem.Data.func (PySem.FuncData.mk (PySem.Str.ofString "coded") (PySem.Str.ofString "Cursor.coded") a14 (FuncBody.stmts b14) s14 (3 : Nat) [] PySem.Value.none PySem.Value.none PySem.Value.none (PySem.Value.str (PySem.Str.ofString "grammarmill.source") (194 : Nat)) none (PySem.Value.ref (129 : Nat)) PySem.Value.none (0 : Nat))) (List.toArray []))) ::
    ((nat_lit 131), (PySem.Obj.mk (PySem.Value.type "tuple") none (PySem.Data.seq (List.toArray []) (0 : Nat)) (List.toArray []))) ::
    ((nat_lit 133), (PySem.Obj.mk (PySem.Value.type "tuple") none (PySem.Data.seq (List.toArray [(PySem.Value.str (PySem.Str.ofString "self") (371 : Nat)), (PySem.Value.str (PySem.Str.ofString "sign") (372 : Nat))]) (0 : Nat)) (List.toArray []))) ::
    ((nat_lit 134), (PySem.Obj.mk (PySem.Value.type "tuple") none (PySem.Data.seq (List.toArray []) (0 : Nat)) (List.toArray []))) ::
    ((nat_lit 136), (PySem.Obj.mk (PySem.Value.type "code") none (PySem.Data.fields (List.toArray [(PySem.Value.str (PySem.Str.ofString "escape") (368 : Nat)), (PySem.Value.str (PySem.Str.ofString "Cursor.escape") (369 : Nat)), (PySem.Value.str (PySem.Str.ofString "/claim/cut.py") (370 : Nat)), (PySem.Value.int 84 (0 : Nat)), (PySem.Value.int 1 (0 : Nat)), (PySem.Value.int 0 (0 : Nat)), (PySem.Value.int 0 (0 : Nat)), (PySem.Value.int 3 (0 : Nat)), (PySem.Value.ref (131 : Nat)), (PySem.Value.bool true), (PySem.Value.int 181 (0 : Nat)), (PySem.Value.ref (132 : Nat)), PySem.Value.none, (PySem.Value.ref (133 : Nat)), (PySem.Value.ref (134 : Nat)), (PySem.Value.ref (135 : Nat)), (PySem.Value.int 373 (0 : Nat)), (PySem.Value.int 84 (0 : Nat)), (PySem.Value.str (PySem.Str.ofString "/claim/cut.py") (374 : Nat))])) (List.toArray []))) ::
    ((nat_lit 137), (PySem.Obj.mk (PySem.Value.type "function") none (PySem.Data.func (PySem.FuncData.mk (PySem.Str.ofString "escape") (PySem.Str.ofString "Cursor.escape") a15 (FuncBody.stmts b15) s15 (3 : Nat) [] PySem.Value.none PySem.Value.none PySem.Value.none (PySem.Value.str (PySem.Str.ofString "grammarmill.source") (194 : Nat)) none (PySem.Value.ref (136 : Nat)) PySem.Value.none (0 : Nat))) (List.toArray []))) ::
    ((nat_lit 138), (PySem.Obj.mk (PySem.Value.type "tuple") none (PySem.Data.seq (List.toArray []) (0 : Nat)) (List.toArray []))) ::
    ((nat_lit 140), (PySem.Obj.mk (PySem.Value.type "tuple") none (PySem.Data.seq (List.toArray [(PySem.Value.str (PySem.Str.ofString "self") (379 : Nat)), (PySem.Value.str (PySem.Str.ofString "end") (380 : Nat)), (PySem.Value.str (PySem.Str.ofString "signs") (381 : Nat)), (PySem.Value.str (PySem.Str.ofString "sign") (382 : Nat))]) (0 : Nat)) (List.toArray []))) ::
    ((nat_lit 141), (PySem.Obj.mk (PySem.Value.type "tuple") none (PySem.Data.seq (List.toArray []) (0 : Nat)) (List.toArray []))) ::
    ((nat_lit 143), (PySem.Obj.mk (PySem.Value.type "code") none (PySem.Data.fields (List.toArray [(PySem.Value.str (PySem.Str.ofString "quoted") (376 : Nat)), (PySem.Value.str (PySem.Str.ofString "Cursor.quoted") (377 : Nat)), (PySem.Value.str (PySem.Str.ofString "/claim/cut.py") (378 : Nat)), (PySem.Value.int 98 (0 : Nat)), (PySem.Value.int 2 (0 : Nat)), (PySem.Value.int 0 (0 : Nat)), (PySem.Value.int 0 (0 : Nat)), (PySem.Value.int 3 (0 : Nat)), (PySem.Value.ref (138 : Nat)), (PySem.Value.bool true), (PySem.Value.int 181 (0 : Nat)), (PySem.Value.ref (139 : Nat)), PySem.Value.none, (PySem.Value.ref (140 : Nat)), (PySem.Value.ref (141 : Nat)), (PySem.Value.ref (142 : Nat)), (PySem.Value.int 383 (0 : Nat)), (PySem.Value.int 98 (0 : Nat)), (PySem.Value.str (PySem.Str.ofString "/claim/cut.py") (384 : Nat))])) (List.toArray []))) ::
    ((nat_lit 144), (PySem.Obj.mk (PySem.Value.type "function") none (PySem.Data.func (PySem.FuncData.mk (PySem.Str.ofString "quoted") (PySem.Str.ofString "Cursor.quoted") a16 (FuncBody.stmts b16) s16 (3 : Nat) [] PySem.Value.none PySem.Value.none PySem.Value.none (PySem.Value.str (PySem.Str.ofString "grammarmill.source") (194 : Nat)) none (PySem.Value.ref (143 : Nat)) PySem.Value.none (0 : Nat))) (List.toArray []))) ::
    ((nat_lit 145), (PySem.Obj.mk (PySem.Value.type "tuple") none (PySem.Data.seq (List.toArray [(PySem.Value.str (PySem.Str.ofString "at") (386 : Nat)), (PySem.Value.str (PySem.Str.ofString "text") (387 : Nat))]) (0 : Nat)) (List.toArray []))) ::
    ((nat_lit 146), (PySem.Obj.mk (PySem.Value.type "dict") none (PySem.Data.dict (List.toArray [(PySem.DictEntry.mk (PySem.PyData.keyHash P (PySem.Str.ofString "__module__")) (PySem.Value.str (PySem.Str.ofString "__module__") (243 : Nat)) (PySem.Value.str (PySem.Str.ofString "grammarmill.source") (194 : Nat))), (PySem.DictEntry.mk (PySem.PyData.keyHash P (PySem.Str.ofString "__firstlineno__")) (PySem.Value.str (PySem.Str.ofString "__firstlineno__") (247 : Nat)) (PySem.Value.int 13 (246 : Nat))), (PySem.DictEntry.mk (PySem.PyData.keyHash P (PySem.Str.ofString "__init__")) (PySem.Value.str (PySem.Str.ofString "__init__") (257 : Nat)) (PySem.Value.ref (37 : Nat))), (PySem.DictEntry.mk (PySem.PyData.keyHash P (PySem.Str.ofString "is_done")) (PySem.Value.str (PySem.Str.ofString "is_done") (264 : Nat)) (PySem.Value.ref (44 : Nat))), (PySem.DictEntry.mk (PySem.PyData.keyHash P (PySem.Str.ofString "peek")) (PySem.Value.str (PySem.Str.ofString "peek") (274 : Nat)) (PySem.Value.ref (52 : Nat))), (PySem.DictEntry.mk (PySem.PyData.keyHash P (PySem.Str.ofString "starts")) (PySem.Value.str (PySem.Str.ofString "starts") (282 : Nat)) (PySem.Value.ref (59 : Nat))), (PySem.DictEntry.mk (PySem.PyData.keyHash P (PySem.Str.ofString "take")) (PySem.Value.str (PySem.Str.ofString "take") (290 : Nat)) (PySem.Value.ref (66 : Nat))), (PySem.DictEntry.mk (PySem.PyData.keyHash P (PySem.Str.ofString "skip")) (PySem.Value.str (PySem.Str.ofString "skip") (298 : Nat)) (PySem.Value.ref (73 : Nat))), (PySem.DictEntry.mk (PySem.PyData.keyHash P (PySem.Str.ofString "take_while")) (PySem.Value.str (PySem.Str.ofString "take_while") (307 : Nat)) (PySem.Value.ref (80 : Nat))), (PySem.DictEntry.mk (PySem.PyData.keyHash P (PySem.Str.ofString "take_line")) (PySem.Value.str (PySem.Str.ofString "take_line") (314 : Nat)) (PySem.Value.ref (87 : Nat))), (PySem.DictEntry.mk (PySem.PyData.keyHash P (PySem.Str.ofString "skip_blanks")) (PySem.Value.str (PySem.Str.ofString "skip_blanks") (323 : Nat)) (PySem.Value.ref (95 : Nat))), (PySem.DictEntry.mk (PySem.PyData.keyHash P (PySem.Str.ofString "name")) (PySem.Value.str (PySem.Str.ofString "name") (331 : Nat)) (PySem.Value.ref (102 : Nat))), (PySem.DictEntry.mk (PySem.PyData.keyHash P (PySem.Str.ofString "number")) (PySem.Value.str (PySem.Str.ofString "number") (340 : Nat)) (PySem.Value.ref (109 : Nat))), (PySem.DictEntry.mk (PySem.PyData.keyHash P (PySem.Str.ofString "position")) (PySem.Value.str (PySem.Str.ofString "position") (347 : Nat)) (PySem.Value.ref (116 : Nat))), (PySem.DictEntry.mk (PySem.PyData.keyHash P (PySem.Str.ofString "position_at")) (PySem.Value.str (PySem.Str.ofString "position_at") (355 : Nat)) (PySem.Value.ref (123 : Nat))), (PySem.DictEntry.mk (PySem.PyData.keyHash P (PySem.Str.ofString "coded")) (PySem.Value.str (PySem.Str.ofString "coded") (367 : Nat)) (PySem.Value.ref (130 : Nat))), (PySem.DictEntry.mk (PySem.PyData.keyHash P (PySem.Str.ofString "escape")) (PySem.Value.str (PySem.Str.ofString "escape") (375 : Nat)) (PySem.Value.ref (137 : Nat))), (PySem.DictEntry.mk (PySem.PyData.keyHash P (PySem.Str.ofString "quoted")) (PySem.Value.str (PySem.Str.ofString "quoted") (385 : Nat)) (PySem.Value.ref (144 : Nat))), (PySem.DictEntry.mk (PySem.PyData.keyHash P (PySem.Str.ofString "__static_attributes__")) (PySem.Value.str (PySem.Str.ofString "__static_attributes__") (388 : Nat)) (PySem.Value.ref (145 : Nat))), (PySem.DictEntry.mk (PySem.PyData.keyHash P (PySem.Str.ofString "__dict__")) (PySem.Value.str (PySem.Str.ofString "__dict__") (390 : Nat)) (PySem.Value.ref (148 : Nat))), (PySem.DictEntry.mk (PySem.PyData.keyHash P (PySem.Str.ofString "__weakref__")) (PySem.Value.str (PySem.Str.ofString "__weakref__") (392 : Nat)) (PySem.Value.ref (149 : Nat))), (PySem.DictEntry.mk (PySem.PyData.keyHash P (PySem.Str.ofString "__doc__")) (PySem.Value.str (PySem.Str.ofString "__doc__") (393 : Nat)) PySem.Value.none)]) (4 : Nat)) (List.toArray []))) ::
    ((nat_lit 147), (PySem.Obj.mk (PySem.Value.type "type") none (PySem.Data.cls (PySem.ClassData.mk (PySem.Str.ofString "Cursor") [(PySem.Value.type "object")] [(PySem.Value.ref (147 : Nat)), (PySem.Value.type "object")] (146 : Nat) (PySem.Str.ofString "Cursor") true [] [] false none false)) (List.toArray [none, none, (some (PySem.Value.str (PySem.Str.ofString "Cursor") (236 : Nat))), (some (PySem.Value.str (PySem.Str.ofString "Cursor") (244 : Nat))), (some (PySem.Value.builtin "object.__new__")), (some (PySem.Value.bool true))]))) ::
    ((nat_lit 148), (PySem.Obj.mk (PySem.Value.type "getset_descriptor") none (PySem.Data.fields (List.toArray [(PySem.Value.str (PySem.Str.ofString "__dict__") (389 : Nat)), (PySem.Value.ref (147 : Nat)), (PySem.Value.builtin "function.__dict__"), (PySem.Value.builtin "function.__dict__#set")])) (List.toArray []))) ::
    ((nat_lit 149), (PySem.Obj.mk (PySem.Value.type "getset_descriptor") none (PySem.Data.fields (List.toArray [(PySem.Value.str (PySem.Str.ofString "__weakref__") (391 : Nat)), (PySem.Value.ref (147 : Nat)), (PySem.Value.builtin "ExceptionGroup.__weakref__"), PySem.Value.none])) (List.toArray []))) ::
    ((nat_lit 152), (PySem.Obj.mk (PySem.Value.type "tuple") none (PySem.Data.seq (List.toArray []) (0 : Nat)) (List.toArray []))) ::
    ((nat_lit 154), (PySem.Obj.mk (PySem.Value.type "tuple") none (PySem.Data.seq (List.toArray [(PySem.Value.str (PySem.Str.ofString "code") (399 : Nat)), (PySem.Value.str (PySem.Str.ofString "figures") (400 : Nat))]) (0 : Nat)) (List.toArray []))) ::
    ((nat_lit 155), (PySem.Obj.mk (PySem.Value.type "tuple") none (PySem.Data.seq (List.toArray []) (0 : Nat)) (List.toArray []))) ::
    ((nat_lit 157), (PySem.Obj.mk (PySem.Value.type "code") none (PySem.Data.fields (List.toArray [(PySem.Value.str (PySem.Str.ofString "hex_escape") (396 : Nat)), (PySem.Value.str (PySem.Str.ofString "hex_escape") (397 : Nat)), (PySem.Value.str (PySem.Str.ofString "/claim/cut.py") (398 : Nat)), (PySem.Value.int 110 (0 : Nat)), (PySem.Value.int 1 (0 : Nat)), (PySem.Value.int 0 (0 : Nat)), (PySem.Value.int 0 (0 : Nat)), (PySem.Value.int 3 (0 : Nat)), (PySem.Value.ref (152 : Nat)), (PySem.Value.bool true), (PySem.Value.int 181 (0 : Nat)), (PySem.Value.ref (153 : Nat)), PySem.Value.none, (PySem.Value.ref (154 : Nat)), (PySem.Value.ref (155 : Nat)), (PySem.Value.ref (156 : Nat)), (PySem.Value.int 401 (0 : Nat)), (PySem.Value.int 110 (0 : Nat)), (PySem.Value.str (PySem.Str.ofString "/claim/cut.py") (402 : Nat))])) (List.toArray []))) ::
    ((nat_lit 158), (PySem.Obj.mk (PySem.Value.type "function") none (PySem.Data.func (PySem.FuncData.mk (PySem.Str.ofString "hex_escape") (PySem.Str.ofString "hex_escape") a17 (FuncBody.stmts b17) s17 (3 : Nat) [] PySem.Value.none PySem.Value.none PySem.Value.none (PySem.Value.str (PySem.Str.ofString "grammarmill.source") (194 : Nat)) none (PySem.Value.ref (157 : Nat)) PySem.Value.none (0 : Nat))) (List.toArray []))) ::
    ((nat_lit 159), (PySem.Obj.mk (PySem.Value.type "tuple") none (PySem.Data.seq (List.toArray []) (0 : Nat)) (List.toArray []))) ::
    ((nat_lit 161), (PySem.Obj.mk (PySem.Value.type "tuple") none (PySem.Data.seq (List.toArray [(PySem.Value.str (PySem.Str.ofString "sign") (407 : Nat)), (PySem.Value.str (PySem.Str.ofString "marks") (408 : Nat)), (PySem.Value.str (PySem.Str.ofString "code") (409 : Nat))]) (0 : Nat)) (List.toArray []))) ::
    ((nat_lit 162), (PySem.Obj.mk (PySem.Value.type "tuple") none (PySem.Data.seq (List.toArray []) (0 : Nat)) (List.toArray []))) ::
    ((nat_lit 164), (PySem.Obj.mk (PySem.Value.type "code") none (PySem.Data.fields (List.toArray [(PySem.Value.str (PySem.Str.ofString "escaped_sign") (404 : Nat)), (PySem.Value.str (PySem.Str.ofString "escaped_sign") (405 : Nat)), (PySem.Value.str (PySem.Str.ofString "/claim/cut.py") (406 : Nat)), (PySem.Value.int 113 (0 : Nat)), (PySem.Value.int 2 (0 : Nat)), (PySem.Value.int 0 (0 : Nat)), (PySem.Value.int 0 (0 : Nat)), (PySem.Value.int 3 (0 : Nat)), (PySem.Value.ref (159 : Nat)), (PySem.Value.bool true), (PySem.Value.int 181 (0 : Nat)), (PySem.Value.ref (160 : Nat)), PySem.Value.none, (PySem.Value.ref (161 : Nat)), (PySem.Value.ref (162 : Nat)), (PySem.Value.ref (163 : Nat)), (PySem.Value.int 410 (0 : Nat)), (PySem.Value.int 113 (0 : Nat)), (PySem.Value.str (PySem.Str.ofString "/claim/cut.py") (411 : Nat))])) (List.toArray []))) ::
    ((nat_lit 165), (PySem.Obj.mk (PySem.Value.type "function") none (PySem.Data.func (PySem.FuncData.mk (PySem.Str.ofString "escaped_sign") (PySem.Str.ofString "escaped_sign") a18 (FuncBody.stmts b18) s18 (3 : Nat) [] PySem.Value.none PySem.Value.none PySem.Value.none (PySem.Value.str (PySem.Str.ofString "grammarmill.source") (194 : Nat)) none (PySem.Value.ref (164 : Nat)) PySem.Value.none (0 : Nat))) (List.toArray []))) ::
    ((nat_lit 166), (PySem.Obj.mk (PySem.Value.type "tuple") none (PySem.Data.seq (List.toArray []) (0 : Nat)) (List.toArray []))) ::
    ((nat_lit 169), (PySem.Obj.mk (PySem.Value.type "code") none (PySem.Data.fields (List.toArray [(PySem.Value.str (PySem.Str.ofString "escaped") (413 : Nat)), (PySem.Value.str (PySem.Str.ofString "escaped") (414 : Nat)), (PySem.Value.str (PySem.Str.ofString "/claim/cut.py") (415 : Nat)), (PySem.Value.int 124 (0 : Nat)), (PySem.Value.int 2 (0 : Nat)), (PySem.Value.int 0 (0 : Nat)), (PySem.Value.int 0 (0 : Nat)), (PySem.Value.int 3 (0 : Nat)), (PySem.Value.ref (166 : Nat)), (PySem.Value.bool true), (PySem.Value.int 181 (0 : Nat)), (PySem.Value.ref (167 : Nat)), PySem.Value.none, PySem.Value.none, PySem.Value.none, (PySem.Value.ref (168 : Nat)), (PySem.Value.int 416 (0 : Nat)), (PySem.Value.int 124 (0 : Nat)), (PySem.Value.str (PySem.Str.ofString "/claim/cut.py") (417 : Nat))])) (List.toArray []))) ::
    ((nat_lit 170), (PySem.Obj.mk (PySem.Value.type "function") none (PySem.Data.func (PySem.FuncData.mk (PySem.Str.ofString "escaped") (PySem.Str.ofString "escaped") a19 (FuncBody.stmts b19) s19 (3 : Nat) [] PySem.Value.none PySem.Value.none PySem.Value.none (PySem.Value.str (PySem.Str.ofString "grammarmill.source") (194 : Nat)) none (PySem.Value.ref (169 : Nat)) PySem.Value.none (0 : Nat))) (List.toArray []))) ::
    ((nat_lit 171), (PySem.Obj.mk (PySem.Value.type "tuple") none (PySem.Data.seq (List.toArray []) (0 : Nat)) (List.toArray []))) ::
    ((nat_lit 174), (PySem.Obj.mk (PySem.Value.type "code") none (PySem.Data.fields (List.toArray [(PySem.Value.str (PySem.Str.ofString "show_value") (421 : Nat)), (PySem.Value.str (PySem.Str.ofString "show_value") (422 : Nat)), (PySem.Value.str (PySem.Str.ofString "/claim/cut.py") (423 : Nat)), (PySem.Value.int 127 (0 : Nat)), (PySem.Value.int 1 (0 : Nat)), (PySem.Value.int 0 (0 : Nat)), (PySem.Value.int 0 (0 : Nat)), (PySem.Value.int 3 (0 : Nat)), (PySem.Value.ref (171 : Nat)), (PySem.Value.bool true), (PySem.Value.int 181 (0 : Nat)), (PySem.Value.ref (172 : Nat)), PySem.Value.none, PySem.Value.none, PySem.Value.none, (PySem.Value.ref (173 : Nat)), (PySem.Value.int 424 (0 : Nat)), (PySem.Value.int 127 (0 : Nat)), (PySem.Value.str (PySem.Str.ofString "/claim/cut.py") (425 : Nat))])) (List.toArray []))) ::
    ((nat_lit 175), (PySem.Obj.mk (PySem.Value.type "function") none (PySem.Data.func (PySem.FuncData.mk (PySem.Str.ofString "show_value") (PySem.Str.ofString "show_value") a20 (FuncBody.stmts b20) s20 (3 : Nat) [] PySem.Value.none PySem.Value.none PySem.Value.none (PySem.Value.str (PySem.Str.ofString "grammarmill.desk") (419 : Nat)) none (PySem.Value.ref (174 : Nat)) PySem.Value.none (0 : Nat))) (List.toArray []))) ::
    ((nat_lit 176), (PySem.Obj.mk (PySem.Value.type "tuple") none (PySem.Data.seq (List.toArray []) (0 : Nat)) (List.toArray []))) ::
    ((nat_lit 179), (PySem.Obj.mk (PySem.Value.type "code") none (PySem.Data.fields (List.toArray [(PySem.Value.str (PySem.Str.ofString "_law_pen") (429 : Nat)), (PySem.Value.str (PySem.Str.ofString "_law_pen") (430 : Nat)), (PySem.Value.str (PySem.Str.ofString "/claim/cut.py") (431 : Nat)), (PySem.Value.int 136 (0 : Nat)), (PySem.Value.int 1 (0 : Nat)), (PySem.Value.int 0 (0 : Nat)), (PySem.Value.int 0 (0 : Nat)), (PySem.Value.int 3 (0 : Nat)), (PySem.Value.ref (176 : Nat)), (PySem.Value.bool true), (PySem.Value.int 181 (0 : Nat)), (PySem.Value.ref (177 : Nat)), PySem.Value.none, PySem.Value.none, PySem.Value.none, (PySem.Value.ref (178 : Nat)), (PySem.Value.int 432 (0 : Nat)), (PySem.Value.int 136 (0 : Nat)), (PySem.Value.str (PySem.Str.ofString "/claim/cut.py") (433 : Nat))])) (List.toArray []))) ::
    ((nat_lit 180), (PySem.Obj.mk (PySem.Value.type "function") none (PySem.Data.func (PySem.FuncData.mk (PySem.Str.ofString "_law_pen") (PySem.Str.ofString "_law_pen") a21 (FuncBody.stmts b21) s21 (3 : Nat) [] PySem.Value.none PySem.Value.none PySem.Value.none (PySem.Value.str (PySem.Str.ofString "law_on0162_01") (427 : Nat)) none (PySem.Value.ref (179 : Nat)) PySem.Value.none (0 : Nat))) (List.toArray []))) ::
    ((nat_lit 181), (PySem.Obj.mk (PySem.Value.type "tuple") none (PySem.Data.seq (List.toArray []) (0 : Nat)) (List.toArray []))) ::
    ((nat_lit 183), (PySem.Obj.mk (PySem.Value.type "tuple") none (PySem.Data.seq (List.toArray [(PySem.Value.str (PySem.Str.ofString "pen") (438 : Nat)), (PySem.Value.str (PySem.Str.ofString "limit") (439 : Nat)), (PySem.Value.str (PySem.Str.ofString "place") (440 : Nat)), (PySem.Value.str (PySem.Str.ofString "digit") (441 : Nat))]) (0 : Nat)) (List.toArray []))) ::
    ((nat_lit 184), (PySem.Obj.mk (PySem.Value.type "tuple") none (PySem.Data.seq (List.toArray []) (0 : Nat)) (List.toArray []))) ::
    ((nat_lit 186), (PySem.Obj.mk (PySem.Value.type "code") none (PySem.Data.fields (List.toArray [(PySem.Value.str (PySem.Str.ofString "_law_draw") (435 : Nat)), (PySem.Value.str (PySem.Str.ofString "_law_draw") (436 : Nat)), (PySem.Value.str (PySem.Str.ofString "/claim/cut.py") (437 : Nat)), (PySem.Value.int 145 (0 : Nat)), (PySem.Value.int 2 (0 : Nat)), (PySem.Value.int 0 (0 : Nat)), (PySem.Value.int 0 (0 : Nat)), (PySem.Value.int 3 (0 : Nat)), (PySem.Value.ref (181 : Nat)), (PySem.Value.bool true), (PySem.Value.int 181 (0 : Nat)), (PySem.Value.ref (182 : Nat)), PySem.Value.none, (PySem.Value.ref (183 : Nat)), (PySem.Value.ref (184 : Nat)), (PySem.Value.ref (185 : Nat)), (PySem.Value.int 442 (0 : Nat)), (PySem.Value.int 145 (0 : Nat)), (PySem.Value.str (PySem.Str.ofString "/claim/cut.py") (443 : Nat))])) (List.toArray []))) ::
    ((nat_lit 187), (PySem.Obj.mk (PySem.Value.type "function") none (PySem.Data.func (PySem.FuncData.mk (PySem.Str.ofString "_law_draw") (PySem.Str.ofString "_law_draw") a22 (FuncBody.stmts b22) s22 (3 : Nat) [] PySem.Value.none PySem.Value.none PySem.Value.none (PySem.Value.str (PySem.Str.ofString "law_on0162_01") (427 : Nat)) none (PySem.Value.ref (186 : Nat)) PySem.Value.none (0 : Nat))) (List.toArray []))) ::
    ((nat_lit 188), (PySem.Obj.mk (PySem.Value.type "list") none (PySem.Data.seq (List.toArray [(PySem.Value.str (PySem.Str.ofString "a") (445 : Nat)), (PySem.Value.str (PySem.Str.ofString "/") (446 : Nat)), (PySem.Value.str (PySem.Str.ofString "\"") (447 : Nat)), (PySem.Value.str (PySem.Str.ofString "'") (448 : Nat)), (PySem.Value.str (PySem.Str.ofString "\n") (449 : Nat)), (PySem.Value.str (PySem.Str.ofString "\\") (450 : Nat)), (PySem.Value.str (PySem.Str.ofString "x") (451 : Nat)), (PySem.Value.str (PySem.Str.ofString "\t") (452 : Nat)), (PySem.Value.str (PySem.Str.ofString "|") (453 : Nat)), (PySem.Value.str (PySem.Str.ofString "7") (454 : Nat)), (PySem.Value.str (PySem.Str.ofString "\x01") (455 : Nat)), (PySem.Value.str (PySem.Str.ofString "\x7f") (456 : Nat)), (PySem.Value.str (PySem.Str.ofString "é") (457 : Nat)), (PySem.Value.str (PySem.Str.ofString "Ж") (458 : Nat)), (PySem.Value.str (PySem.Str.ofString "f") (459 : Nat)), (PySem.Value.str (PySem.Str.ofString ",") (460 : Nat))]) (0 : Nat)) (List.toArray []))) ::
    ((nat_lit 189), (PySem.Obj.mk (PySem.Value.type "tuple") none (PySem.Data.seq (List.toArray []) (0 : Nat)) (List.toArray []))) ::
    ((nat_lit 192), (PySem.Obj.mk (PySem.Value.type "code") none (PySem.Data.fields (List.toArray [(PySem.Value.str (PySem.Str.ofString "_law_word") (462 : Nat)), (PySem.Value.str (PySem.Str.ofString "_law_word") (463 : Nat)), (PySem.Value.str (PySem.Str.ofString "/claim/cut.py") (464 : Nat)), (PySem.Value.int 157 (0 : Nat)), (PySem.Value.int 1 (0 : Nat)), (PySem.Value.int 0 (0 : Nat)), (PySem.Value.int 0 (0 : Nat)), (PySem.Value.int 3 (0 : Nat)), (PySem.Value.ref (189 : Nat)), (PySem.Value.bool true), (PySem.Value.int 181 (0 : Nat)), (PySem.Value.ref (190 : Nat)), PySem.Value.none, PySem.Value.none, PySem.Value.none, (PySem.Value.ref (191 : Nat)), (PySem.Value.int 465 (0 : Nat)), (PySem.Value.int 157 (0 : Nat)), (PySem.Value.str (PySem.Str.ofString "/claim/cut.py") (466 : Nat))])) (List.toArray []))) ::
    ((nat_lit 193), (PySem.Obj.mk (PySem.Value.type "function") none (PySem.Data.func (PySem.FuncData.mk (PySem.Str.ofString "_law_word") (PySem.Str.ofString "_law_word") a23 (FuncBody.stmts b23) s23 (3 : Nat) [] PySem.Value.none PySem.Value.none PySem.Value.none (PySem.Value.str (PySem.Str.ofString "law_on0162_01") (427 : Nat)) none (PySem.Value.ref (192 : Nat)) PySem.Value.none (0 : Nat))) (List.toArray []))) ::
    ((nat_lit 194), (PySem.Obj.mk (PySem.Value.type "tuple") none (PySem.Data.seq (List.toArray []) (0 : Nat)) (List.toArray []))) ::
    ((nat_lit 197), (PySem.Obj.mk (PySem.Value.type "code") none (PySem.Data.fields (List.toArray [(PySem.Value.str (PySem.Str.ofString "_law_value") (468 : Nat)), (PySem.Value.str (PySem.Str.ofString "_law_value") (469 : Nat)), (PySem.Value.str (PySem.Str.ofString "/claim/cut.py") (470 : Nat)), (PySem.Value.int 159 (0 : Nat)), (PySem.Value.int 2 (0 : Nat)), (PySem.Value.int 0 (0 : Nat)), (PySem.Value.int 0 (0 : Nat)), (PySem.Value.int 3 (0 : Nat)), (PySem.Value.ref (194 : Nat)), (PySem.Value.bool true), (PySem.Value.int 181 (0 : Nat)), (PySem.Value.ref (195 : Nat)), PySem.Value.none, PySem.Value.none, PySem.Value.none, (PySem.Value.ref (196 : Nat)), (PySem.Value.int 471 (0 : Nat)), (PySem.Value.int 159 (0 : Nat)), (PySem.Value.str (PySem.Str.ofString "/claim/cut.py") (472 : Nat))])) (List.toArray []))) ::
    ((nat_lit 198), (PySem.Obj.mk (PySem.Value.type "function") none (PySem.Data.func (PySem.FuncData.mk (PySem.Str.ofString "_law_value") (PySem.Str.ofString "_law_value") a24 (FuncBody.stmts b24) s24 (3 : Nat) [] PySem.Value.none PySem.Value.none PySem.Value.none (PySem.Value.str (PySem.Str.ofString "law_on0162_01") (427 : Nat)) none (PySem.Value.ref (197 : Nat)) PySem.Value.none (0 : Nat))) (List.toArray []))) ::
    ((nat_lit 199), (PySem.Obj.mk (PySem.Value.type "tuple") none (PySem.Data.seq (List.toArray []) (0 : Nat)) (List.toArray []))) ::
    ((nat_lit 201), (PySem.Obj.mk (PySem.Value.type "tuple") none (PySem.Data.seq (List.toArray [(PySem.Value.str (PySem.Str.ofString "cursor") (477 : Nat)), (PySem.Value.str (PySem.Str.ofString "found") (478 : Nat)), (PySem.Value.str (PySem.Str.ofString "is_below") (479 : Nat)), (PySem.Value.str (PySem.Str.ofString "number") (480 : Nat))]) (0 : Nat)) (List.toArray []))) ::
    ((nat_lit 202), (PySem.Obj.mk (PySem.Value.type "tuple") none (PySem.Data.seq (List.toArray []) (0 : Nat)) (List.toArray []))) ::
    ((nat_lit 204), (PySem.Obj.mk (PySem.Value.type "code") none (PySem.Data.fields (List.toArray [(PySem.Value.str (PySem.Str.ofString "_law_read") (474 : Nat)), (PySem.Value.str (PySem.Str.ofString "_law_read") (475 : Nat)), (PySem.Value.str (PySem.Str.ofString "/claim/cut.py") (476 : Nat)), (PySem.Value.int 170 (0 : Nat)), (PySem.Value.int 1 (0 : Nat)), (PySem.Value.int 0 (0 : Nat)), (PySem.Value.int 0 (0 : Nat)), (PySem.Value.int 3 (0 : Nat)), (PySem.Value.ref (199 : Nat)), (PySem.Value.bool true), (PySem.Value.int 181 (0 : Nat)), (PySem.Value.ref (200 : Nat)), PySem.Value.none, (PySem.Value.ref (201 : Nat)), (PySem.Value.ref (202 : Nat)), (PySem.Value.ref (203 : Nat)), (PySem.Value.int 481 (0 : Nat)), (PySem.Value.int 170 (0 : Nat)), (PySem.Value.str (PySem.Str.ofString "/claim/cut.py") (482 : Nat))])) (List.toArray []))) ::
    ((nat_lit 205), (PySem.Obj.mk (PySem.Value.type "function") none (PySem.Data.func (PySem.FuncData.mk (PySem.Str.ofString "_law_read") (PySem.Str.ofString "_law_read") a25 (FuncBody.stmts b25) s25 (3 : Nat) [] PySem.Value.none PySem.Value.none PySem.Value.none (PySem.Value.str (PySem.Str.ofString "law_on0162_01") (427 : Nat)) none (PySem.Value.ref (204 : Nat)) PySem.Value.none (0 : Nat))) (List.toArray []))) ::
    ((nat_lit 206), (PySem.Obj.mk (PySem.Value.type "tuple") none (PySem.Data.seq (List.toArray []) (0 : Nat)) (List.toArray []))) ::
    ((nat_lit 208), (PySem.Obj.mk (PySem.Value.type "tuple") none (PySem.Data.seq (List.toArray [(PySem.Value.str (PySem.Str.ofString "script") (487 : Nat)), (PySem.Value.str (PySem.Str.ofString "pen") (488 : Nat)), (PySem.Value.str (PySem.Str.ofString "value") (489 : Nat)), (PySem.Value.str (PySem.Str.ofString "row") (490 : Nat)), (PySem.Value.str (PySem.Str.ofString "cursor") (491 : Nat)), (PySem.Value.str (PySem.Str.ofString "other") (492 : Nat)), (PySem.Value.str (PySem.Str.ofString "text") (493 : Nat)), (PySem.Value.str (PySem.Str.ofString "end") (494 : Nat)), (PySem.Value.str (PySem.Str.ofString "laid") (495 : Nat)), (PySem.Value.str (PySem.Str.ofString "place") (496 : Nat)), (PySem.Value.str (PySem.Str.ofString "ahead") (497 : Nat))]) (0 : Nat)) (List.toArray []))) ::
    ((nat_lit 209), (PySem.Obj.mk (PySem.Value.type "tuple") none (PySem.Data.seq (List.toArray []) (0 : Nat)) (List.toArray []))) ::
    ((nat_lit 211), (PySem.Obj.mk (PySem.Value.type "code") none (PySem.Data.fields (List.toArray [(PySem.Value.str (PySem.Str.ofString "law") (484 : Nat)), (PySem.Value.str (PySem.Str.ofString "law") (485 : Nat)), (PySem.Value.str (PySem.Str.ofString "/claim/cut.py") (486 : Nat)), (PySem.Value.int 189 (0 : Nat)), (PySem.Value.int 1 (0 : Nat)), (PySem.Value.int 0 (0 : Nat)), (PySem.Value.int 0 (0 : Nat)), (PySem.Value.int 3 (0 : Nat)), (PySem.Value.ref (206 : Nat)), (PySem.Value.bool true), (PySem.Value.int 181 (0 : Nat)), (PySem.Value.ref (207 : Nat)), PySem.Value.none, (PySem.Value.ref (208 : Nat)), (PySem.Value.ref (209 : Nat)), (PySem.Value.ref (210 : Nat)), (PySem.Value.int 498 (0 : Nat)), (PySem.Value.int 189 (0 : Nat)), (PySem.Value.str (PySem.Str.ofString "/claim/cut.py") (499 : Nat))])) (List.toArray []))) ::
    ((nat_lit 212), (PySem.Obj.mk (PySem.Value.type "function") none (PySem.Data.func (PySem.FuncData.mk (PySem.Str.ofString "law") (PySem.Str.ofString "law") a26 (FuncBody.stmts b26) s26 (3 : Nat) [] PySem.Value.none PySem.Value.none PySem.Value.none (PySem.Value.str (PySem.Str.ofString "law_on0162_01") (427 : Nat)) none (PySem.Value.ref (211 : Nat)) PySem.Value.none (0 : Nat))) (List.toArray []))) ::
    []
  case h =>
    dsimp only [defArgs, defBody, defScope, clsBody, topAt, stAt, PySem.Challenge.pw_on0162_01]
    refine ⟨?_, ?_, ?_, ?_, ?_, ?_, ?_, ?_, ?_, ?_, ?_, ?_, ?_, ?_, ?_, ?_, ?_, ?_, ?_, ?_, ?_, ?_, ?_, ?_, ?_, ?_, ?_, ?_, ?_, ?_, ?_, ?_, ?_, ?_, ?_, ?_, ?_, ?_, ?_, ?_, ?_, ?_, ?_, ?_, ?_, ?_, ?_, ?_, ?_, ?_, ?_, ?_, ?_, ?_, ?_, ?_, ?_, ?_, ?_, ?_, ?_, ?_, ?_, ?_, ?_, ?_, ?_, ?_, ?_, ?_, ?_, ?_, ?_, ?_, ?_, ?_, ?_, ?_, ?_, ?_, ?_⟩ <;> exact rfl
set_option maxRecDepth 100000 in
set_option maxHeartbeats 0 in
noncomputable def view : Program := by
  refine' ((?f : (q : Program) → (q = { PySem.Challenge.rw_on0162_01.row.prog with main := { PySem.Challenge.rw_on0162_01.row.prog.main with body := [topAt 0, topAt 2, topAt 3, topAt 4, topAt 5, topAt 6, topAt 7, topAt 8, topAt 9, topAt 10, topAt 11, topAt 12, topAt 13, topAt 15, topAt 17, topAt 18, topAt 19, topAt 20, topAt 21, topAt 22, topAt 23] } }) → Program) _ ?h)
  case f => exact fun q _ => q
  case h =>
    dsimp only [topAt, stAt, PySem.Challenge.pw_on0162_01]
    exact rfl
end Mine
end
/-! Hh -/
section
open PySem PySem.W PyProof.Rows
set_option maxRecDepth 100000
namespace Mine
theorem asAre : ∀ P, ((nat_lit 2) :: (nat_lit 3) :: (nat_lit 15) :: (nat_lit 17) :: (nat_lit 18) :: (nat_lit 20) :: (nat_lit 21) :: (nat_lit 22) :: (nat_lit 30) :: (nat_lit 31) :: (nat_lit 33) :: (nat_lit 34) :: (nat_lit 36) :: (nat_lit 37) :: (nat_lit 38) :: (nat_lit 40) :: (nat_lit 41) :: (nat_lit 43) :: (nat_lit 44) :: (nat_lit 45) :: (nat_lit 46) :: (nat_lit 48) :: (nat_lit 49) :: (nat_lit 51) :: (nat_lit 52) :: (nat_lit 53) :: (nat_lit 55) :: (nat_lit 56) :: (nat_lit 58) :: (nat_lit 59) :: (nat_lit 60) :: (nat_lit 62) :: (nat_lit 63) :: (nat_lit 65) :: (nat_lit 66) :: (nat_lit 67) :: (nat_lit 69) :: (nat_lit 70) :: (nat_lit 72) :: (nat_lit 73) :: (nat_lit 74) :: (nat_lit 76) :: (nat_lit 77) :: (nat_lit 79) :: (nat_lit 80) :: (nat_lit 81) :: (nat_lit 83) :: (nat_lit 84) :: (nat_lit 86) :: (nat_lit 87) :: (nat_lit 88) :: (nat_lit 89) :: (nat_lit 91) :: (nat_lit 92) :: (nat_lit 94) :: (nat_lit 95) :: (nat_lit 96) :: (nat_lit 98) :: (nat_lit 99) :: (nat_lit 101) :: (nat_lit 102) :: (nat_lit 103) :: (nat_lit 105) :: (nat_lit 106) :: (nat_lit 108) :: (nat_lit 109) :: (nat_lit 110) :: (nat_lit 112) :: (nat_lit 113) :: (nat_lit 115) :: (nat_lit 116) :: (nat_lit 117) :: (nat_lit 119) :: (nat_lit 120) :: (nat_lit 122) :: (nat_lit 123) :: (nat_lit 124) :: (nat_lit 126) :: (nat_lit 127) :: (nat_lit 129) :: (nat_lit 130) :: (nat_lit 131) :: (nat_lit 133) :: (nat_lit 134) :: (nat_lit 136) :: (nat_lit 137) :: (nat_lit 138) :: (nat_lit 140) :: (nat_lit 141) :: (nat_lit 143) :: (nat_lit 144) :: (nat_lit 145) :: (nat_lit 146) :: (nat_lit 147) :: (nat_lit 148) :: (nat_lit 149) :: (nat_lit 152) :: (nat_lit 154) :: (nat_lit 155) :: (nat_lit 157) :: (nat_lit 158) :: (nat_lit 159) :: (nat_lit 161) :: (nat_lit 162) :: (nat_lit 164) :: (nat_lit 165) :: (nat_lit 166) :: (nat_lit 169) :: (nat_lit 170) :: (nat_lit 171) :: (nat_lit 174) :: (nat_lit 175) :: (nat_lit 176) :: (nat_lit 179) :: (nat_lit 180) :: (nat_lit 181) :: (nat_lit 183) :: (nat_lit 184) :: (nat_lit 186) :: (nat_lit 187) :: (nat_lit 188) :: (nat_lit 189) :: (nat_lit 192) :: (nat_lit 193) :: (nat_lit 194) :: (nat_lit 197) :: (nat_lit 198) :: (nat_lit 199) :: (nat_lit 201) :: (nat_lit 202) :: (nat_lit 204) :: (nat_lit 205) :: (nat_lit 206) :: (nat_lit 208) :: (nat_lit 209) :: (nat_lit 211) :: (nat_lit 212) :: []) = (frag P).map (·.1) := fun _ => by kernel_rfl
theorem ends_of_boot {p : Program} {β : Type} {S : Shared → β} {G : World → β} {N : Nat}
    (b : ∀ w : World, (fencedOpening treeTable p w N).map (fun s => (s.heap, s.gens, s.drawn, s.toks)) = some (boot_heap w.params, Array.mk [], boot_drawn, boot_toks))
    (h : ∀ w : World, (fun os => (topFrom treeTable p w N ⟨boot_heap w.params, #[], boot_drawn, boot_toks, os⟩).map S) = fun _ => some (G w)) :
    ∀ w : World, (openEnds treeTable p w N).map S = some (G w) := fun w => by
  obtain ⟨⟨h1, gs, d, k, os⟩, e, e'⟩ := Option.map_eq_some_iff.mp (b w)
  obtain ⟨rfl, rfl, rfl, rfl⟩ : h1 = _ ∧ gs = _ ∧ d = _ ∧ k = _ := by simpa using e'
  unfold openEnds
  rw [e]
  exact congrFun (h w) os
noncomputable def seenAt (w : World) := fun os => (topFrom treeTable PySem.Challenge.rw_on0162_01.row.prog w 2730 ⟨boot_heap w.params, #[], boot_drawn, boot_toks, os⟩).map (fun s => (openSeen view [(PySem.Str.ofString "LETTERS"), (PySem.Str.ofString "NAME_SIGNS"), (PySem.Str.ofString "HEX_SIGNS"), (PySem.Str.ofString "PLAIN_ESCAPES"), (PySem.Str.ofString "_law_signs")] [] (fun s => xlAt view [((PySem.Str.ofString "LETTERS"), (PySem.W.WData.str (PySem.Str.mk (List.toArray [(97 : Nat), (98 : Nat), (99 : Nat), (100 : Nat), (101 : Nat), (102 : Nat), (103 : Nat), (104 : Nat), (105 : Nat), (106 : Nat), (107 : Nat), (108 : Nat), (109 : Nat), (110 : Nat), (111 : Nat), (112 : Nat), (113 : Nat), (114 : Nat), (115 : Nat), (116 : Nat), (117 : Nat), (118 : Nat), (119 : Nat), (120 : Nat), (121 : Nat), (122 : Nat), (65 : Nat), (66 : Nat), (67 : Nat), (68 : Nat), (69 : Nat), (70 : Nat), (71 : Nat), (72 : Nat), (73 : Nat), (74 : Nat), (75 : Nat), (76 : Nat), (77 : Nat), (78 : Nat), (79 : Nat), (80 : Nat), (81 : Nat), (82 : Nat), (83 : Nat), (84 : Nat), (85 : Nat), (86 : Nat), (87 : Nat), (88 : Nat), (89 : Nat), (90 : Nat)])))), ((PySem.Str.ofString "NAME_SIGNS"), (PySem.W.WData.str (PySem.Str.mk (List.toArray ((97 : Nat) :: (98 : Nat) :: (99 : Nat) :: (100 : Nat) :: (101 : Nat) :: (102 : Nat) :: (103 : Nat) :: (104 : Nat) :: (105 : Nat) :: (106 : Nat) :: (107 : Nat) :: (108 : Nat) :: (109 : Nat) :: (110 : Nat) :: (111 : Nat) :: (112 : Nat) :: (113 : Nat) :: (114 : Nat) :: (115 : Nat) :: (116 : Nat) :: (117 : Nat) :: (118 : Nat) :: (119 : Nat) :: (120 : Nat) :: (121 : Nat) :: (122 : Nat) :: (65 : Nat) :: (66 : Nat) :: (67 : Nat) :: (68 : Nat) :: (69 : Nat) :: (70 : Nat) :: (71 : Nat) :: (72 : Nat) :: (73 : Nat) :: (74 : Nat) :: (75 : Nat) :: (76 : Nat) :: (77 : Nat) :: (78 : Nat) :: (79 : Nat) :: (80 : Nat) :: (81 : Nat) :: (82 : Nat) :: (83 : Nat) :: (84 : Nat) :: (85 : Nat) :: (86 : Nat) :: (87 : Nat) :: (88 : Nat) :: (89 : Nat) :: (90 : Nat) :: (95 : Nat) :: (48 : Nat) :: (49 : Nat) :: (50 : Nat) :: (51 : Nat) :: (52 : Nat) :: (53 : Nat) :: (54 : Nat) :: (55 : Nat) :: (56 : Nat) :: (57 : Nat) :: []))))), ((PySem.Str.ofString "HEX_SIGNS"), (PySem.W.WData.str (PySem.Str.mk (List.toArray [(48 : Nat), (49 : Nat), (50 : Nat), (51 : Nat), (52 : Nat), (53 : Nat), (54 : Nat), (55 : Nat), (56 : Nat), (57 : Nat), (97 : Nat), (98 : Nat), (99 : Nat), (100 : Nat), (101 : Nat), (102 : Nat), (65 : Nat), (66 : Nat), (67 : Nat), (68 : Nat), (69 : Nat), (70 : Nat)]))))] s && recOk (RowW.records PySem.Challenge.rw_on0162_01.row.toRowW) s) true s, (kHook frag ((nat_lit 2) :: (nat_lit 3) :: (nat_lit 15) :: (nat_lit 17) :: (nat_lit 18) :: (nat_lit 20) :: (nat_lit 21) :: (nat_lit 22) :: (nat_lit 30) :: (nat_lit 31) :: (nat_lit 33) :: (nat_lit 34) :: (nat_lit 36) :: (nat_lit 37) :: (nat_lit 38) :: (nat_lit 40) :: (nat_lit 41) :: (nat_lit 43) :: (nat_lit 44) :: (nat_lit 45) :: (nat_lit 46) :: (nat_lit 48) :: (nat_lit 49) :: (nat_lit 51) :: (nat_lit 52) :: (nat_lit 53) :: (nat_lit 55) :: (nat_lit 56) :: (nat_lit 58) :: (nat_lit 59) :: (nat_lit 60) :: (nat_lit 62) :: (nat_lit 63) :: (nat_lit 65) :: (nat_lit 66) :: (nat_lit 67) :: (nat_lit 69) :: (nat_lit 70) :: (nat_lit 72) :: (nat_lit 73) :: (nat_lit 74) :: (nat_lit 76) :: (nat_lit 77) :: (nat_lit 79) :: (nat_lit 80) :: (nat_lit 81) :: (nat_lit 83) :: (nat_lit 84) :: (nat_lit 86) :: (nat_lit 87) :: (nat_lit 88) :: (nat_lit 89) :: (nat_lit 91) :: (nat_lit 92) :: (nat_lit 94) :: (nat_lit 95) :: (nat_lit 96) :: (nat_lit 98) :: (nat_lit 99) :: (nat_lit 101) :: (nat_lit 102) :: (nat_lit 103) :: (nat_lit 105) :: (nat_lit 106) :: (nat_lit 108) :: (nat_lit 109) :: (nat_lit 110) :: (nat_lit 112) :: (nat_lit 113) :: (nat_lit 115) :: (nat_lit 116) :: (nat_lit 117) :: (nat_lit 119) :: (nat_lit 120) :: (nat_lit 122) :: (nat_lit 123) :: (nat_lit 124) :: (nat_lit 126) :: (nat_lit 127) :: (nat_lit 129) :: (nat_lit 130) :: (nat_lit 131) :: (nat_lit 133) :: (nat_lit 134) :: (nat_lit 136) :: (nat_lit 137) :: (nat_lit 138) :: (nat_lit 140) :: (nat_lit 141) :: (nat_lit 143) :: (nat_lit 144) :: (nat_lit 145) :: (nat_lit 146) :: (nat_lit 147) :: (nat_lit 148) :: (nat_lit 149) :: (nat_lit 152) :: (nat_lit 154) :: (nat_lit 155) :: (nat_lit 157) :: (nat_lit 158) :: (nat_lit 159) :: (nat_lit 161) :: (nat_lit 162) :: (nat_lit 164) :: (nat_lit 165) :: (nat_lit 166) :: (nat_lit 169) :: (nat_lit 170) :: (nat_lit 171) :: (nat_lit 174) :: (nat_lit 175) :: (nat_lit 176) :: (nat_lit 179) :: (nat_lit 180) :: (nat_lit 181) :: (nat_lit 183) :: (nat_lit 184) :: (nat_lit 186) :: (nat_lit 187) :: (nat_lit 188) :: (nat_lit 189) :: (nat_lit 192) :: (nat_lit 193) :: (nat_lit 194) :: (nat_lit 197) :: (nat_lit 198) :: (nat_lit 199) :: (nat_lit 201) :: (nat_lit 202) :: (nat_lit 204) :: (nat_lit 205) :: (nat_lit 206) :: (nat_lit 208) :: (nat_lit 209) :: (nat_lit 211) :: (nat_lit 212) :: []) asAre).obs s))
noncomputable def goodAt (w : World) := fun (_ : OsState) => some (openGood view [(PySem.Str.ofString "LETTERS"), (PySem.Str.ofString "NAME_SIGNS"), (PySem.Str.ofString "HEX_SIGNS"), (PySem.Str.ofString "PLAIN_ESCAPES"), (PySem.Str.ofString "_law_signs")], (kHook frag ((nat_lit 2) :: (nat_lit 3) :: (nat_lit 15) :: (nat_lit 17) :: (nat_lit 18) :: (nat_lit 20) :: (nat_lit 21) :: (nat_lit 22) :: (nat_lit 30) :: (nat_lit 31) :: (nat_lit 33) :: (nat_lit 34) :: (nat_lit 36) :: (nat_lit 37) :: (nat_lit 38) :: (nat_lit 40) :: (nat_lit 41) :: (nat_lit 43) :: (nat_lit 44) :: (nat_lit 45) :: (nat_lit 46) :: (nat_lit 48) :: (nat_lit 49) :: (nat_lit 51) :: (nat_lit 52) :: (nat_lit 53) :: (nat_lit 55) :: (nat_lit 56) :: (nat_lit 58) :: (nat_lit 59) :: (nat_lit 60) :: (nat_lit 62) :: (nat_lit 63) :: (nat_lit 65) :: (nat_lit 66) :: (nat_lit 67) :: (nat_lit 69) :: (nat_lit 70) :: (nat_lit 72) :: (nat_lit 73) :: (nat_lit 74) :: (nat_lit 76) :: (nat_lit 77) :: (nat_lit 79) :: (nat_lit 80) :: (nat_lit 81) :: (nat_lit 83) :: (nat_lit 84) :: (nat_lit 86) :: (nat_lit 87) :: (nat_lit 88) :: (nat_lit 89) :: (nat_lit 91) :: (nat_lit 92) :: (nat_lit 94) :: (nat_lit 95) :: (nat_lit 96) :: (nat_lit 98) :: (nat_lit 99) :: (nat_lit 101) :: (nat_lit 102) :: (nat_lit 103) :: (nat_lit 105) :: (nat_lit 106) :: (nat_lit 108) :: (nat_lit 109) :: (nat_lit 110) :: (nat_lit 112) :: (nat_lit 113) :: (nat_lit 115) :: (nat_lit 116) :: (nat_lit 117) :: (nat_lit 119) :: (nat_lit 120) :: (nat_lit 122) :: (nat_lit 123) :: (nat_lit 124) :: (nat_lit 126) :: (nat_lit 127) :: (nat_lit 129) :: (nat_lit 130) :: (nat_lit 131) :: (nat_lit 133) :: (nat_lit 134) :: (nat_lit 136) :: (nat_lit 137) :: (nat_lit 138) :: (nat_lit 140) :: (nat_lit 141) :: (nat_lit 143) :: (nat_lit 144) :: (nat_lit 145) :: (nat_lit 146) :: (nat_lit 147) :: (nat_lit 148) :: (nat_lit 149) :: (nat_lit 152) :: (nat_lit 154) :: (nat_lit 155) :: (nat_lit 157) :: (nat_lit 158) :: (nat_lit 159) :: (nat_lit 161) :: (nat_lit 162) :: (nat_lit 164) :: (nat_lit 165) :: (nat_lit 166) :: (nat_lit 169) :: (nat_lit 170) :: (nat_lit 171) :: (nat_lit 174) :: (nat_lit 175) :: (nat_lit 176) :: (nat_lit 179) :: (nat_lit 180) :: (nat_lit 181) :: (nat_lit 183) :: (nat_lit 184) :: (nat_lit 186) :: (nat_lit 187) :: (nat_lit 188) :: (nat_lit 189) :: (nat_lit 192) :: (nat_lit 193) :: (nat_lit 194) :: (nat_lit 197) :: (nat_lit 198) :: (nat_lit 199) :: (nat_lit 201) :: (nat_lit 202) :: (nat_lit 204) :: (nat_lit 205) :: (nat_lit 206) :: (nat_lit 208) :: (nat_lit 209) :: (nat_lit 211) :: (nat_lit 212) :: []) asAre).val w)
set_option maxHeartbeats 0 in
theorem seenF (w : World) : seenAt (w.withFollow "special-get-raises" false) = goodAt (w.withFollow "special-get-raises" false) := by kernel_rfl
set_option maxHeartbeats 0 in
theorem seenT (w : World) : seenAt (w.withFollow "special-get-raises" true) = goodAt (w.withFollow "special-get-raises" true) := by kernel_rfl
theorem seen_all (w : World) : seenAt w = goodAt w := byRow2 (P := fun w => seenAt w = goodAt w) "special-get-raises" seenF seenT w
theorem booted : ∀ w : World, (fencedOpening treeTable PySem.Challenge.rw_on0162_01.row.prog w 2730).map (fun s => (s.heap, s.gens, s.drawn, s.toks)) = some (boot_heap w.params, Array.mk [], boot_drawn, boot_toks) :=
  boot_open (by kernel_rfl) (by decide) (fun s => by kernel_rfl)
theorem left : LeftO PySem.Challenge.rw_on0162_01.row.prog view [(PySem.Str.ofString "LETTERS"), (PySem.Str.ofString "NAME_SIGNS"), (PySem.Str.ofString "HEX_SIGNS"), (PySem.Str.ofString "PLAIN_ESCAPES"), (PySem.Str.ofString "_law_signs")] (fun s => xlAt view [((PySem.Str.ofString "LETTERS"), (PySem.W.WData.str (PySem.Str.mk (List.toArray [(97 : Nat), (98 : Nat), (99 : Nat), (100 : Nat), (101 : Nat), (102 : Nat), (103 : Nat), (104 : Nat), (105 : Nat), (106 : Nat), (107 : Nat), (108 : Nat), (109 : Nat), (110 : Nat), (111 : Nat), (112 : Nat), (113 : Nat), (114 : Nat), (115 : Nat), (116 : Nat), (117 : Nat), (118 : Nat), (119 : Nat), (120 : Nat), (121 : Nat), (122 : Nat), (65 : Nat), (66 : Nat), (67 : Nat), (68 : Nat), (69 : Nat), (70 : Nat), (71 : Nat), (72 : Nat), (73 : Nat), (74 : Nat), (75 : Nat), (76 : Nat), (77 : Nat), (78 : Nat), (79 : Nat), (80 : Nat), (81 : Nat), (82 : Nat), (83 : Nat), (84 : Nat), (85 : Nat), (86 : Nat), (87 : Nat), (88 : Nat), (89 : Nat), (90 : Nat)])))), ((PySem.Str.ofString "NAME_SIGNS"), (PySem.W.WData.str (PySem.Str.mk (List.toArray ((97 : Nat) :: (98 : Nat) :: (99 : Nat) :: (100 : Nat) :: (101 : Nat) :: (102 : Nat) :: (103 : Nat) :: (104 : Nat) :: (105 : Nat) :: (106 : Nat) :: (107 : Nat) :: (108 : Nat) :: (109 : Nat) :: (110 : Nat) :: (111 : Nat) :: (112 : Nat) :: (113 : Nat) :: (114 : Nat) :: (115 : Nat) :: (116 : Nat) :: (117 : Nat) :: (118 : Nat) :: (119 : Nat) :: (120 : Nat) :: (121 : Nat) :: (122 : Nat) :: (65 : Nat) :: (66 : Nat) :: (67 : Nat) :: (68 : Nat) :: (69 : Nat) :: (70 : Nat) :: (71 : Nat) :: (72 : Nat) :: (73 : Nat) :: (74 : Nat) :: (75 : Nat) :: (76 : Nat) :: (77 : Nat) :: (78 : Nat) :: (79 : Nat) :: (80 : Nat) :: (81 : Nat) :: (82 : Nat) :: (83 : Nat) :: (84 : Nat) :: (85 : Nat) :: (86 : Nat) :: (87 : Nat) :: (88 : Nat) :: (89 : Nat) :: (90 : Nat) :: (95 : Nat) :: (48 : Nat) :: (49 : Nat) :: (50 : Nat) :: (51 : Nat) :: (52 : Nat) :: (53 : Nat) :: (54 : Nat) :: (55 : Nat) :: (56 : Nat) :: (57 : Nat) :: []))))), ((PySem.Str.ofString "HEX_SIGNS"), (PySem.W.WData.str (PySem.Str.mk (List.toArray [(48 : Nat), (49 : Nat), (50 : Nat), (51 : Nat), (52 : Nat), (53 : Nat), (54 : Nat), (55 : Nat), (56 : Nat), (57 : Nat), (97 : Nat), (98 : Nat), (99 : Nat), (100 : Nat), (101 : Nat), (102 : Nat), (65 : Nat), (66 : Nat), (67 : Nat), (68 : Nat), (69 : Nat), (70 : Nat)]))))] s && recOk (RowW.records PySem.Challenge.rw_on0162_01.row.toRowW) s) (Hook.obs (kHook frag ((nat_lit 2) :: (nat_lit 3) :: (nat_lit 15) :: (nat_lit 17) :: (nat_lit 18) :: (nat_lit 20) :: (nat_lit 21) :: (nat_lit 22) :: (nat_lit 30) :: (nat_lit 31) :: (nat_lit 33) :: (nat_lit 34) :: (nat_lit 36) :: (nat_lit 37) :: (nat_lit 38) :: (nat_lit 40) :: (nat_lit 41) :: (nat_lit 43) :: (nat_lit 44) :: (nat_lit 45) :: (nat_lit 46) :: (nat_lit 48) :: (nat_lit 49) :: (nat_lit 51) :: (nat_lit 52) :: (nat_lit 53) :: (nat_lit 55) :: (nat_lit 56) :: (nat_lit 58) :: (nat_lit 59) :: (nat_lit 60) :: (nat_lit 62) :: (nat_lit 63) :: (nat_lit 65) :: (nat_lit 66) :: (nat_lit 67) :: (nat_lit 69) :: (nat_lit 70) :: (nat_lit 72) :: (nat_lit 73) :: (nat_lit 74) :: (nat_lit 76) :: (nat_lit 77) :: (nat_lit 79) :: (nat_lit 80) :: (nat_lit 81) :: (nat_lit 83) :: (nat_lit 84) :: (nat_lit 86) :: (nat_lit 87) :: (nat_lit 88) :: (nat_lit 89) :: (nat_lit 91) :: (nat_lit 92) :: (nat_lit 94) :: (nat_lit 95) :: (nat_lit 96) :: (nat_lit 98) :: (nat_lit 99) :: (nat_lit 101) :: (nat_lit 102) :: (nat_lit 103) :: (nat_lit 105) :: (nat_lit 106) :: (nat_lit 108) :: (nat_lit 109) :: (nat_lit 110) :: (nat_lit 112) :: (nat_lit 113) :: (nat_lit 115) :: (nat_lit 116) :: (nat_lit 117) :: (nat_lit 119) :: (nat_lit 120) :: (nat_lit 122) :: (nat_lit 123) :: (nat_lit 124) :: (nat_lit 126) :: (nat_lit 127) :: (nat_lit 129) :: (nat_lit 130) :: (nat_lit 131) :: (nat_lit 133) :: (nat_lit 134) :: (nat_lit 136) :: (nat_lit 137) :: (nat_lit 138) :: (nat_lit 140) :: (nat_lit 141) :: (nat_lit 143) :: (nat_lit 144) :: (nat_lit 145) :: (nat_lit 146) :: (nat_lit 147) :: (nat_lit 148) :: (nat_lit 149) :: (nat_lit 152) :: (nat_lit 154) :: (nat_lit 155) :: (nat_lit 157) :: (nat_lit 158) :: (nat_lit 159) :: (nat_lit 161) :: (nat_lit 162) :: (nat_lit 164) :: (nat_lit 165) :: (nat_lit 166) :: (nat_lit 169) :: (nat_lit 170) :: (nat_lit 171) :: (nat_lit 174) :: (nat_lit 175) :: (nat_lit 176) :: (nat_lit 179) :: (nat_lit 180) :: (nat_lit 181) :: (nat_lit 183) :: (nat_lit 184) :: (nat_lit 186) :: (nat_lit 187) :: (nat_lit 188) :: (nat_lit 189) :: (nat_lit 192) :: (nat_lit 193) :: (nat_lit 194) :: (nat_lit 197) :: (nat_lit 198) :: (nat_lit 199) :: (nat_lit 201) :: (nat_lit 202) :: (nat_lit 204) :: (nat_lit 205) :: (nat_lit 206) :: (nat_lit 208) :: (nat_lit 209) :: (nat_lit 211) :: (nat_lit 212) :: []) asAre)) (Hook.val (kHook frag ((nat_lit 2) :: (nat_lit 3) :: (nat_lit 15) :: (nat_lit 17) :: (nat_lit 18) :: (nat_lit 20) :: (nat_lit 21) :: (nat_lit 22) :: (nat_lit 30) :: (nat_lit 31) :: (nat_lit 33) :: (nat_lit 34) :: (nat_lit 36) :: (nat_lit 37) :: (nat_lit 38) :: (nat_lit 40) :: (nat_lit 41) :: (nat_lit 43) :: (nat_lit 44) :: (nat_lit 45) :: (nat_lit 46) :: (nat_lit 48) :: (nat_lit 49) :: (nat_lit 51) :: (nat_lit 52) :: (nat_lit 53) :: (nat_lit 55) :: (nat_lit 56) :: (nat_lit 58) :: (nat_lit 59) :: (nat_lit 60) :: (nat_lit 62) :: (nat_lit 63) :: (nat_lit 65) :: (nat_lit 66) :: (nat_lit 67) :: (nat_lit 69) :: (nat_lit 70) :: (nat_lit 72) :: (nat_lit 73) :: (nat_lit 74) :: (nat_lit 76) :: (nat_lit 77) :: (nat_lit 79) :: (nat_lit 80) :: (nat_lit 81) :: (nat_lit 83) :: (nat_lit 84) :: (nat_lit 86) :: (nat_lit 87) :: (nat_lit 88) :: (nat_lit 89) :: (nat_lit 91) :: (nat_lit 92) :: (nat_lit 94) :: (nat_lit 95) :: (nat_lit 96) :: (nat_lit 98) :: (nat_lit 99) :: (nat_lit 101) :: (nat_lit 102) :: (nat_lit 103) :: (nat_lit 105) :: (nat_lit 106) :: (nat_lit 108) :: (nat_lit 109) :: (nat_lit 110) :: (nat_lit 112) :: (nat_lit 113) :: (nat_lit 115) :: (nat_lit 116) :: (nat_lit 117) :: (nat_lit 119) :: (nat_lit 120) :: (nat_lit 122) :: (nat_lit 123) :: (nat_lit 124) :: (nat_lit 126) :: (nat_lit 127) :: (nat_lit 129) :: (nat_lit 130) :: (nat_lit 131) :: (nat_lit 133) :: (nat_lit 134) :: (nat_lit 136) :: (nat_lit 137) :: (nat_lit 138) :: (nat_lit 140) :: (nat_lit 141) :: (nat_lit 143) :: (nat_lit 144) :: (nat_lit 145) :: (nat_lit 146) :: (nat_lit 147) :: (nat_lit 148) :: (nat_lit 149) :: (nat_lit 152) :: (nat_lit 154) :: (nat_lit 155) :: (nat_lit 157) :: (nat_lit 158) :: (nat_lit 159) :: (nat_lit 161) :: (nat_lit 162) :: (nat_lit 164) :: (nat_lit 165) :: (nat_lit 166) :: (nat_lit 169) :: (nat_lit 170) :: (nat_lit 171) :: (nat_lit 174) :: (nat_lit 175) :: (nat_lit 176) :: (nat_lit 179) :: (nat_lit 180) :: (nat_lit 181) :: (nat_lit 183) :: (nat_lit 184) :: (nat_lit 186) :: (nat_lit 187) :: (nat_lit 188) :: (nat_lit 189) :: (nat_lit 192) :: (nat_lit 193) :: (nat_lit 194) :: (nat_lit 197) :: (nat_lit 198) :: (nat_lit 199) :: (nat_lit 201) :: (nat_lit 202) :: (nat_lit 204) :: (nat_lit 205) :: (nat_lit 206) :: (nat_lit 208) :: (nat_lit 209) :: (nat_lit 211) :: (nat_lit 212) :: []) asAre)) 2730 :=
  ends_of_boot booted seen_all
end Mine
end
/-! Pure -/
section
open PySem PySem.W PySem.Calls PyProof.Rows
set_option Elab.async false
namespace Mine
/-- what is still to be read of a text, from place k on -/
def At (tx : Str) (k : Int) (r : List Nat) : Prop := 0 ≤ k ∧ k ≤ (tx.length : Int) ∧ tx.cps.toList.drop k.toNat = r
theorem At.ge {tx : Str} {k : Int} {r : List Nat} (h : At tx k r) : 0 ≤ k := h.1
theorem At.le {tx : Str} {k : Int} {r : List Nat} (h : At tx k r) : k ≤ (tx.length : Int) := h.2.1
theorem At.len {tx : Str} {k : Int} {r : List Nat} (h : At tx k r) : (tx.length : Int) = k + (r.length : Int) := by
  obtain ⟨h0, h1, h2⟩ := h
  have e := congrArg List.length h2
  rw [List.length_drop, Array.length_toList] at e
  have : tx.length = tx.cps.size := rfl
  omega
theorem At.nil {tx : Str} {k : Int} (h : At tx k []) : (tx.length : Int) ≤ k := by
  have := h.len; simp at this; omega
theorem At.lt {tx : Str} {k : Int} {c : Nat} {r : List Nat} (h : At tx k (c :: r)) : k < (tx.length : Int) := by
  have := h.len; simp at this; omega
theorem At.next {tx : Str} {k : Int} {c : Nat} {r : List Nat} (h : At tx k (c :: r)) : At tx (k + 1) r := by
  have hl := h.lt
  obtain ⟨h0, h1, h2⟩ := h
  refine ⟨by omega, by omega, ?_⟩
  have : (k + 1).toNat = k.toNat + 1 := by omega
  rw [this, ← List.drop_drop, h2]; rfl
theorem At.skip {tx : Str} {k : Int} : ∀ {u r : List Nat}, At tx k (u ++ r) → At tx (k + (u.length : Int)) r
  | [], r, h => by simpa using h
  | c :: u, r, h => by
    have := (At.next (r := u ++ r) h).skip
    rw [List.length_cons]
    rwa [show k + ((u.length + 1 : Nat) : Int) = k + 1 + (u.length : Int) by omega]
theorem At.item {tx : Str} {k : Int} {c : Nat} {r : List Nat} (h : At tx k (c :: r)) : Txt.item tx k = ⟨#[c]⟩ := by
  have hl := h.lt
  obtain ⟨h0, h1, h2⟩ := h
  have e : tx.cps[k.toNat]? = some c := by
    have := congrArg (fun l => l[0]?) h2
    simpa [List.getElem?_drop] using this
  unfold Txt.item Txt.charAt
  have : seqIndex? k tx.length = some k.toNat := by
    unfold seqIndex?
    simp only [Bool.decide_and, show ¬ k < 0 by omega]
    split <;> first | rfl | (split <;> simp_all <;> omega) | (simp_all; try omega)
  rw [this]; simp [e]
theorem At.slice {tx : Str} {k j : Int} {r : List Nat} (h : At tx k r) (hj : k ≤ j) : Txt.slice tx (some k) (some j) = ⟨(r.take (j - k).toNat).toArray⟩ := by
  obtain ⟨h0, h1, h2⟩ := h
  by_cases hb : j ≤ (tx.length : Int)
  · have := StrLaws.sliceText_plain (x := tx) (i := k) (j := j) ⟨h0, hj, by simpa [Str.length] using hb⟩
    rw [h2] at this
    exact this
  · have e : Txt.slice tx (some k) (some j) = Txt.slice tx (some k) (some (tx.length : Int)) := by
      unfold Txt.slice
      have : Builtin.Str.strSliceIndices (some k) (some j) 1 tx.length = Builtin.Str.strSliceIndices (some k) (some (tx.length : Int)) 1 tx.length := by
        unfold Builtin.Str.strSliceIndices
        simp only [show ¬ j < 0 by omega, show ¬ ((tx.length : Int) < 0) by omega, if_false]
        have : max 0 (min j (tx.length : Int)) = max 0 (min (tx.length : Int) (tx.length : Int)) := by omega
        simp [this]
      rw [this]
    rw [e]
    have := StrLaws.sliceText_plain (x := tx) (i := k) (j := (tx.length : Int)) ⟨h0, h1, by simp [Str.length]⟩
    rw [h2] at this
    refine this.trans ?_
    have hl : (tx.length : Int) = k + (r.length : Int) := At.len ⟨h0, h1, h2⟩
    rw [List.take_of_length_le (by omega), List.take_of_length_le (by omega)]
end Mine
end
/-! Base -/
section
open PySem PySem.W PySem.Calls PyProof.Rows
set_option Elab.async false
set_option maxRecDepth 100000
namespace Mine
def Tell (w : World) (f : Addr) (vs : List Value) (dneed uneed : Nat) (news : List (Addr × Obj)) (Post : Value → List (Addr × Obj) → Prop) : Prop :=
  ∀ (p : Program) (loose : List Str) (mean : ExcName → Option Value) (mg mb : Str → Option Value) (dp un : Nat) (gd : Option (List Code)) (cn : Str) (cs : Scope) (a : Addr) (ccd : Value) (cl : List (Str × Addr)) (outer : List Env) (A₀ : Around) (base h₀ : Heap) (L : Addr) (m : Str → Option Value) (s : Shared) (Q E : Value → Shared → Prop),
    Below A₀ base outer h₀ → Fr h₀ L s.heap m → (frag w.params).In h₀ → News h₀ L s.heap news → Top p loose mean mg mb h₀ → cs.kind = .function → dp + dneed < recursionLimit → un + uneed < cLine →
    (∀ r h' tk' news', Fr h₀ L h' m → News h₀ L h' news' → Post r news' → Q r { s with heap := h', toks := tk' }) →
    wpAny (model PySem.Challenge.rw_on0162_01.row.prog w) (ktrTop dp un gd cn cs L a ccd cl outer) (call (.ref f) vs) Q E s

theorem Tell.use {w : World} {f : Addr} {vs : List Value} {dneed uneed : Nat} {news : List (Addr × Obj)} {Post : Value → List (Addr × Obj) → Prop} (C : Tell w f vs dneed uneed news Post)
    {p : Program} {loose : List Str} {mean : ExcName → Option Value} {mg mb : Str → Option Value} {dp un : Nat} {gd : Option (List Code)} {cn : Str} {cs : Scope} {a : Addr} {ccd : Value} {cl : List (Str × Addr)} {outer : List Env} {A₀ : Around} {base h₀ : Heap} {L : Addr} {m : Str → Option Value} {s : Shared} {Q E : Value → Shared → Prop}
    (B : Below A₀ base outer h₀) (F : Fr h₀ L s.heap m) (X : (frag w.params).In h₀) (N : News h₀ L s.heap news) (T : Top p loose mean mg mb h₀) (hk : cs.kind = .function) (hdp : dp + dneed < recursionLimit) (hun : un + uneed < cLine)
    (ret : ∀ r h' tk' news', Fr h₀ L h' m → News h₀ L h' news' → Post r news' → Q r { s with heap := h', toks := tk' }) :
    wpAny (model PySem.Challenge.rw_on0162_01.row.prog w) (ktrTop dp un gd cn cs L a ccd cl outer) (call (.ref f) vs) Q E s :=
  C _ _ _ _ _ _ _ _ _ _ _ _ _ _ _ _ _ _ _ _ _ _ B F X N T hk hdp hun ret

theorem Tell.mono {w : World} {f : Addr} {vs : List Value} {d u d' u' : Nat} {news : List (Addr × Obj)} {P P' : Value → List (Addr × Obj) → Prop} (C : Tell w f vs d u news P) (h : ∀ r n, P r n → P' r n) (hd : d ≤ d' := by decide) (hu : u ≤ u' := by decide) : Tell w f vs d' u' news P' := by
  intro p loose mean mg mb dp un gd cn cs a ccd cl outer A₀ base h₀ L m s Q E B F X N T hk hdp hun ret
  exact C.use B F X N T hk (Nat.lt_of_le_of_lt (Nat.add_le_add_left hd _) hdp) (Nat.lt_of_le_of_lt (Nat.add_le_add_left hu _) hun) fun r h' tk' n F' N' q => ret r h' tk' n F' N' (h r n q)

/-- another order of the ledger, or fewer of its entries, ahead of a call -/
theorem Tell.sub {w : World} {f : Addr} {vs : List Value} {d u : Nat} {news news₂ : List (Addr × Obj)} {P : Value → List (Addr × Obj) → Prop} (C : Tell w f vs d u news P) (h : ∀ p ∈ news, p ∈ news₂) : Tell w f vs d u news₂ P := by
  intro p loose mean mg mb dp un gd cn cs a ccd cl outer A₀ base h₀ L m s Q E B F X N T hk hdp hun ret
  exact C.use B F X (fun p hp => N p (h p hp)) T hk hdp hun ret

abbrev cd (h1 h2 : Int) (t1 t2 tt : Tok) (tx : Str) (a : Int) (ta : Tok) : Obj := dictOf [⟨h1, .str (Str.ofString "text") t1, .str tx tt⟩, ⟨h2, .str (Str.ofString "at") t2, .int a ta⟩] 2

theorem upd_tell {w : World} {f : Addr} {vs : List Value} {d u : Nat} {x dx : Addr} {o : Obj} {nw : List (Addr × Obj)} {ff : Obj → List (Addr × Obj)} {P : Value → Obj → Prop} (hx : (x, instObj 147 dx) ∈ nw) (hu : UpdF dx o nw ff) (ho : o ≠ instObj 147 dx)
    (C : ∀ rest, (∀ p ∈ rest, p.1 ≠ dx) → @Ne Nat x dx → Tell w f vs d u ((x, instObj 147 dx) :: (dx, o) :: rest) (fun v nw' => ∃ o', nw' = (x, instObj 147 dx) :: (dx, o') :: rest ∧ P v o')) :
    Tell w f vs d u nw (fun v nw' => ∃ o', nw' = ff o' ∧ P v o') := by
  intro p loose mean mg mb dp un gd cn cs a ccd cl outer A₀ base h₀ L m s Q E B F X N T hk hdp hun ret
  obtain ⟨pre, post, rfl, hf, hp, hq⟩ := hu.split
  have hxd : @Ne Nat x dx := fun e => by
    have e : x = dx := e
    have h1 := N.get hx
    have h2 := N.get (List.mem_append_right pre (List.mem_cons_self (a := (dx, o)) (l := post)))
    rw [e, h2] at h1
    exact ho (Option.some.inj h1)
  refine (C (pre ++ post) (fun p hp' => (List.mem_append.mp hp').elim (hp p) (hq p)) hxd).use B F X (fun p hp' => N p ?_) T hk hdp hun fun r h' tk' n F' N' ⟨o', e, q⟩ => ret r h' tk' _ F' ?_ ⟨o', rfl, q⟩
  · rcases List.mem_cons.mp hp' with rfl | hp'
    · exact hx
    · rcases List.mem_cons.mp hp' with rfl | hp'
      · exact List.mem_append_right _ List.mem_cons_self
      · exact (List.mem_append.mp hp').elim (fun q => List.mem_append_left _ q) fun q => List.mem_append_right _ (List.mem_cons_of_mem _ q)
  · rw [hf]
    subst e
    intro p hp'
    refine N' p ?_
    rcases List.mem_append.mp hp' with q | q
    · exact List.mem_cons_of_mem _ (List.mem_cons_of_mem _ (List.mem_append_left _ q))
    · rcases List.mem_cons.mp q with rfl | q
      · exact List.mem_cons_of_mem _ List.mem_cons_self
      · exact List.mem_cons_of_mem _ (List.mem_cons_of_mem _ (List.mem_append_right _ q))

theorem cd_ne {h1 h2 : Int} {t1 t2 tt : Tok} {tx : Str} {a : Int} {ta : Tok} {dx : Addr} : cd h1 h2 t1 t2 tt tx a ta ≠ instObj 147 dx := fun e => by
  have := congrArg Obj.cls e
  cases this

/-- a call that reads the ledger alone: it may be looked at by some of its entries -/
theorem read_tell {w : World} {f : Addr} {vs : List Value} {d u : Nat} {pre nw : List (Addr × Obj)} {P : Value → Prop} (hp : ∀ p ∈ pre, p ∈ nw)
    (C : Tell w f vs d u (pre ++ nw) (fun v nw' => nw' = pre ++ nw ∧ P v)) : Tell w f vs d u nw (fun v nw' => nw' = nw ∧ P v) := by
  intro p loose mean mg mb dp un gd cn cs a ccd cl outer A₀ base h₀ L m s Q E B F X N T hk hdp hun ret
  refine C.use B F X (fun p hp' => N p ((List.mem_append.mp hp').elim (hp p) id)) T hk hdp hun fun r h' tk' n F' N' ⟨e, q⟩ => ret r h' tk' _ F' (fun p hp' => N' p ?_) ⟨rfl, q⟩
  rw [e]; exact List.mem_append_right _ hp'

/-- a mark at which the walk stops -/
def Halt (P : Prop) : Prop := P
theorem Halt.mk {P : Prop} (h : Halt P) : P := h

/-- the end of a loop's turn, a mark of my own -/
def WEnd (P : Flow → Shared → Prop) (f : Flow) (s : Shared) : Prop := P f s
theorem WEnd.mk {P : Flow → Shared → Prop} {f : Flow} {s : Shared} (h : P f s) : WEnd P f s := h

section
variable {prog : Program} {w : World} {A : Around} {E : Value → Shared → Prop} {Q : Flow → Shared → Prop} {s : Shared} {env : Env} {h₀ : Heap} {L : Addr}
def WNext {σ : Type} (h₀ : Heap) (L : Addr) (s : Shared) (Led : σ → List (Addr × Obj)) (Lm : σ → Str → Option Value) (mes : σ → Nat) (Inv : σ → Prop) (Q : Flow → Shared → Prop) (n : Nat) (f : Flow) (s₃ : Shared) : Prop :=
  match f with
  | .next | .cont => ∃ h' tk c, s₃ = { s with heap := h', toks := tk } ∧ Fr h₀ L h' (Lm c) ∧ News h₀ L h' (Led c) ∧ mes c < n ∧ Inv c
  | .brk => Q .next s₃
  | .ret v => Q (.ret v) s₃
theorem while_map {σ : Type} {test : Expr} {body : List Stmt} {pos : Pos} (Led : σ → List (Addr × Obj)) (Lm : σ → Str → Option Value) (mes : σ → Nat) (Inv : σ → Prop) (c₀ : σ)
    (F : Fr h₀ L s.heap (Lm c₀)) (N : News h₀ L s.heap (Led c₀)) (hI : Inv c₀)
    (turn : ∀ c h₁ tk₁, Fr h₀ L h₁ (Lm c) → News h₀ L h₁ (Led c) → Inv c →
      wpAny (model prog w) A (isTrue test env (eval test env)) (fun b s₂ =>
        if b = true then wpAny (model prog w) A (execs body env) (WEnd (WNext h₀ L s Led Lm mes Inv Q (mes c))) E s₂ else Q .next s₂) E { s with heap := h₁, toks := tk₁ })
    (hE : PassesOwn (model prog w) A env E := by with_unfolding_all passes_own) :
    wpAny (model prog w) A (exec (.While test body [] pos) env) Q E s := by
  refine While_inv2 (fun n m₁ nl => ∃ c, m₁ = Lm c ∧ nl = Led c ∧ n = mes c ∧ Inv c) F N ⟨c₀, rfl, rfl, rfl, hI⟩ ?_ hE
  rintro n m₁ nl h₁ tk₁ F₁ N₁ ⟨c, rfl, rfl, rfl, hc⟩
  refine wpAny_mono (turn c h₁ tk₁ F₁ N₁ hc) (fun b s₂ h₂ => ?_) fun _ _ e => e
  cases b with
  | false => exact h₂
  | true =>
    simp only [if_true] at h₂ ⊢
    refine wpAny_mono h₂ (fun f s₃ h₃ => ?_) fun _ _ e => e
    unfold WEnd WNext at h₃
    cases f with
    | next => obtain ⟨h', tk, c', e, F', N', hl, hI'⟩ := h₃; exact ⟨h', tk, _, _, _, e, F', N', hl, c', rfl, rfl, rfl, hI'⟩
    | cont => obtain ⟨h', tk, c', e, F', N', hl, hI'⟩ := h₃; exact ⟨h', tk, _, _, _, e, F', N', hl, c', rfl, rfl, rfl, hI'⟩
    | brk => exact h₃
    | ret v => exact h₃
theorem WNext.intro {σ : Type} {Led : σ → List (Addr × Obj)} {Lm : σ → Str → Option Value} {mes : σ → Nat} {Inv : σ → Prop} {n tk : Nat} {h' : Heap} (c : σ) (F : Fr h₀ L h' (Lm c)) (N : News h₀ L h' (Led c)) (hl : mes c < n) (hI : Inv c) :
    WEnd (WNext h₀ L s Led Lm mes Inv Q n) .next { s with heap := h', toks := tk } := ⟨h', tk, c, rfl, F, N, hl, hI⟩
end
theorem fr_none {h₀ h : Heap} {L : Addr} {M : Str → Option Value} (F : Fr h₀ L h M) (x : Str) (e : M x = none) : Fr h₀ L h (fun y => if y = x then none else M y) := by
  have : (fun y => if y = x then none else M y) = M := by
    funext y
    by_cases hy : y = x
    · rw [if_pos hy, hy, e]
    · rw [if_neg hy]
  rw [this]; exact F
theorem fr_again {h₀ h : Heap} {L : Addr} {M : Str → Option Value} {x : Str} {v w : Option Value} (F : Fr h₀ L h (fun y => if y = x then v else if y = x then w else M y)) : Fr h₀ L h (fun y => if y = x then v else M y) := by
  have : (fun y => if y = x then v else M y) = (fun y => if y = x then v else if y = x then w else M y) := by
    funext y
    by_cases hy : y = x
    · rw [if_pos hy, if_pos hy]
    · rw [if_neg hy, if_neg hy, if_neg hy]
  rw [this]; exact F

theorem item_at {prog : Program} {w : World} {A : Around} {E : Value → Shared → Prop} {s : Shared} {tx : Str} {k : Int} {c : Nat} {r : List Nat} {t u : Tok} {value slice : Expr} {Q : Value → Shared → Prop} (H : At tx k (c :: r)) (hlen : tx.length ≤ 1000)
    (h : Q (.str ⟨#[c]⟩ s.toks) { s with toks := s.toks + 1 })
    (hs : subscripted slice false (.str tx t) (.int k u) = operate [.str tx t, .int k u] (getItem (.str tx t) (.int k u)) := by with_unfolding_all rfl)
    (ht : ∀ r, letTemporaryGo value (.str tx t) r = pure () := by intro _; with_unfolding_all rfl) :
    wpAny (model prog w) A (subscriptTail value slice (.str tx t) (.int k u)) Q E s := by
  have h0 := H.ge
  have h1 := H.lt
  refine item_str (fitsSsize_of (N := 9223372036854775808) (by omega) (by omega) (Int.le_refl _)) (by omega) (by omega) (fun _ => ?_) hs ht
  rw [H.item]; exact h
theorem contains_one (x : Str) (c : Nat) : Txt.contains x ⟨#[c]⟩ = decide (c ∈ x.cps.toList) := StrLaws.found_one x c

theorem found_no {x : Str} {c : Nat} (h : c ∉ x.cps.toList) : (Builtin.Str.occurrences x ⟨#[c]⟩ 0 x.length 1).isEmpty = true := by
  have := StrLaws.found_one x c
  rw [decide_eq_false h] at this
  simpa using this
theorem found_yes {x : Str} {c : Nat} (h : c ∈ x.cps.toList) : (Builtin.Str.occurrences x ⟨#[c]⟩ 0 x.length 1).isEmpty = false := by
  have := StrLaws.found_one x c
  rw [decide_eq_true h] at this
  simpa using this

section
variable {prog : Program} {w : World} {A : Around} {E : Value → Shared → Prop} {Q : Flow → Shared → Prop} {s : Shared} {env : Env} {h₀ : Heap} {L : Addr}
theorem while_one {σ : Type} {test : Expr} {body : List Stmt} {pos : Pos} {M : Str → Option Value} (x1 : Str) (Led : σ → List (Addr × Obj)) (v1 : σ → Option Value) (mes : σ → Nat) (Inv : σ → Prop) (c₀ : σ)
    (F : Fr h₀ L s.heap (fun y => if y = x1 then v1 c₀ else M y)) (N : News h₀ L s.heap (Led c₀)) (hI : Inv c₀)
    (turn : ∀ c h₁ tk₁, Fr h₀ L h₁ (fun y => if y = x1 then v1 c else M y) → News h₀ L h₁ (Led c) → Inv c →
      wpAny (model prog w) A (isTrue test env (eval test env)) (fun b s₂ =>
        if b = true then wpAny (model prog w) A (execs body env) (WEnd (WNext h₀ L s Led (fun c y => if y = x1 then v1 c else M y) mes Inv Q (mes c))) E s₂ else Q .next s₂) E { s with heap := h₁, toks := tk₁ })
    (hE : PassesOwn (model prog w) A env E := by with_unfolding_all passes_own) :
    wpAny (model prog w) A (exec (.While test body [] pos) env) Q E s := while_map Led (fun c y => if y = x1 then v1 c else M y) mes Inv c₀ F N hI turn hE
theorem while_two {σ : Type} {test : Expr} {body : List Stmt} {pos : Pos} {M : Str → Option Value} (x1 x2 : Str) (Led : σ → List (Addr × Obj)) (v1 v2 : σ → Option Value) (mes : σ → Nat) (Inv : σ → Prop) (c₀ : σ)
    (F : Fr h₀ L s.heap (fun y => if y = x1 then v1 c₀ else if y = x2 then v2 c₀ else M y)) (N : News h₀ L s.heap (Led c₀)) (hI : Inv c₀)
    (turn : ∀ c h₁ tk₁, Fr h₀ L h₁ (fun y => if y = x1 then v1 c else if y = x2 then v2 c else M y) → News h₀ L h₁ (Led c) → Inv c →
      wpAny (model prog w) A (isTrue test env (eval test env)) (fun b s₂ =>
        if b = true then wpAny (model prog w) A (execs body env) (WEnd (WNext h₀ L s Led (fun c y => if y = x1 then v1 c else if y = x2 then v2 c else M y) mes Inv Q (mes c))) E s₂ else Q .next s₂) E { s with heap := h₁, toks := tk₁ })
    (hE : PassesOwn (model prog w) A env E := by with_unfolding_all passes_own) :
    wpAny (model prog w) A (exec (.While test body [] pos) env) Q E s := while_map Led (fun c y => if y = x1 then v1 c else if y = x2 then v2 c else M y) mes Inv c₀ F N hI turn hE
end
theorem fr_two {h₀ h : Heap} {L : Addr} {M : Str → Option Value} {x1 x2 : Str} {v1 v2 w1 w2 : Option Value} (F : Fr h₀ L h (fun y => if y = x1 then v1 else if y = x2 then v2 else if y = x1 then w1 else if y = x2 then w2 else M y)) : Fr h₀ L h (fun y => if y = x1 then v1 else if y = x2 then v2 else M y) := by
  have : (fun y => if y = x1 then v1 else if y = x2 then v2 else M y) = (fun y => if y = x1 then v1 else if y = x2 then v2 else if y = x1 then w1 else if y = x2 then w2 else M y) := by
    funext y
    by_cases hy : y = x1
    · rw [if_pos hy, if_pos hy]
    · by_cases hz : y = x2
      · rw [if_neg hy, if_neg hy, if_pos hz, if_pos hz]
      · rw [if_neg hy, if_neg hy, if_neg hz, if_neg hz, if_neg hy, if_neg hz]
  rw [this]; exact F

theorem allLt_ne {d : Addr} : ∀ {l : List (Addr × Obj)}, AllLt d l → ∀ p ∈ l, p.1 ≠ d
  | [], _, _, h => nomatch h
  | q :: r, h, p, hp => by
    rcases List.mem_cons.mp hp with rfl | hp
    · exact Nat.ne_of_lt h.1
    · exact allLt_ne h.2 p hp

theorem news_tail {h₀ h : Heap} {L : Addr} {p : Addr × Obj} {l : List (Addr × Obj)} (N : News h₀ L h (p :: l)) : News h₀ L h l := fun q hq => N q (List.mem_cons_of_mem _ hq)
theorem news_sub {h₀ h : Heap} {L : Addr} {l l' : List (Addr × Obj)} (N : News h₀ L h l) (hs : ∀ p ∈ l', p ∈ l) : News h₀ L h l' := fun q hq => N q (hs q hq)
end Mine
end
/-! Base2 -/
section
open PySem PySem.W PySem.Calls PyProof.Rows
set_option Elab.async false
namespace Mine
theorem truthy_at {prog : Program} {w : World} {A : Around} {E : Value → Shared → Prop} {s : Shared} {h₀ : Heap} {L l : Addr} {news : List (Addr × Obj)} {its : Array Value} {n : Nat} {b : Bool} {Q : Bool → Shared → Prop}
    (N : News h₀ L s.heap news) (hm : (l, listOf its n) ∈ news) (hb : (!its.isEmpty) = b) (hfit : its.size ≤ sizeLine) (h : ∀ tk, Q b { s with toks := tk }) : wpAny (model prog w) A (truthy (.ref l)) Q E s := by
  subst hb
  rw [sizeLine_eq] at hfit
  exact wpAny_truthy_list ⟨_, N.get hm, rfl, n, rfl⟩ (by omega) (h _)
theorem perm3 {α : Type} {a b c : α} {l : List α} : ∀ p ∈ a :: b :: c :: l, p ∈ c :: a :: b :: l := by
  intro p hp
  simp only [List.mem_cons] at hp ⊢
  rcases hp with h | h | h | h <;> simp [h]
theorem perm4 {α : Type} {a b c : α} {l l2 l3 : List α} : ∀ p ∈ c :: a :: b :: ((l2 ++ l) ++ l3), p ∈ a :: b :: (l2 ++ (c :: (l ++ l3))) := by
  intro p hp
  simp only [List.mem_cons, List.mem_append] at hp ⊢
  rcases hp with h | h | h | (h | h) | h <;> simp [h]
theorem perm5 {α : Type} {a b c : α} {l l3 : List α} : ∀ p ∈ a :: b :: ((c :: l) ++ l3), p ∈ c :: a :: b :: (l ++ l3) := by
  intro p hp
  simp only [List.mem_cons, List.mem_append] at hp ⊢
  rcases hp with h | h | (h | h) | h <;> simp [h]
end Mine
namespace Mine
theorem upd_pen {w : World} {f : Addr} {vs : List Value} {d u : Nat} {x cl : Addr} {o c : Obj} {nw : List (Addr × Obj)} {ff : Obj → List (Addr × Obj)} {P : Value → Obj → Prop} (hx : (cl, c) ∈ nw) (hu : UpdF x o nw ff) (ho : o ≠ c)
    (C : ∀ rest, (∀ p ∈ rest, p.1 ≠ x) → @Ne Nat x cl → Tell w f vs d u ((x, o) :: (cl, c) :: rest) (fun v nw' => ∃ o', nw' = (x, o') :: (cl, c) :: rest ∧ P v o')) :
    Tell w f vs d u nw (fun v nw' => ∃ o', nw' = ff o' ∧ P v o') := by
  intro p loose mean mg mb dp un gd cn cs a ccd cl' outer A₀ base h₀ L m s Q E B F X N T hk hdp hun ret
  obtain ⟨pre, post, rfl, hf, hp, hq⟩ := hu.split
  have hxd : @Ne Nat x cl := fun e => by
    have e : x = cl := e
    have h1 := N.get hx
    have h2 := N.get (List.mem_append_right pre (List.mem_cons_self (a := (x, o)) (l := post)))
    rw [← e, h2] at h1
    exact ho (Option.some.inj h1)
  refine (C (pre ++ post) (fun p hp' => (List.mem_append.mp hp').elim (hp p) (hq p)) hxd).use B F X (fun p hp' => N p ?_) T hk hdp hun fun r h' tk' n F' N' ⟨o', e, q⟩ => ret r h' tk' _ F' ?_ ⟨o', rfl, q⟩
  · rcases List.mem_cons.mp hp' with rfl | hp'
    · exact List.mem_append_right _ List.mem_cons_self
    · rcases List.mem_cons.mp hp' with rfl | hp'
      · exact hx
      · exact (List.mem_append.mp hp').elim (fun q => List.mem_append_left _ q) fun q => List.mem_append_right _ (List.mem_cons_of_mem _ q)
  · rw [hf]
    subst e
    intro p hp'
    refine N' p ?_
    rcases List.mem_append.mp hp' with q | q
    · exact List.mem_cons_of_mem _ (List.mem_cons_of_mem _ (List.mem_append_left _ q))
    · rcases List.mem_cons.mp q with rfl | q
      · exact List.mem_cons_self
      · exact List.mem_cons_of_mem _ (List.mem_cons_of_mem _ (List.mem_append_right _ q))
abbrev penO (cl : Addr) (g mx pl : Int) (tg tm tp : Tok) (n : Nat) : Obj := listOf #[.ref cl, .int g tg, .int mx tm, .int pl tp] n
/-- a pen: what is left of the great number, the mixed number, the draws so far -/
structure Pen where
  g : Int
  mx : Int
  pl : Int
  tg : Tok
  tm : Tok
  tp : Tok
  n : Nat
abbrev Pen.o (P : Pen) (cl : Addr) : Obj := penO cl P.g P.mx P.pl P.tg P.tm P.tp P.n
structure Pen.Ok (P : Pen) (b : Int) : Prop where
  g0 : 0 ≤ P.g
  m0 : 0 ≤ P.mx
  m1 : P.mx < 2147483647
  p0 : 0 ≤ P.pl
  p1 : P.pl ≤ b
theorem pen_ne {cl : Addr} {P : Pen} {cs : List Value} {ns : List Int} {nc : Nat} (h : IntsAre cs ns) : P.o cl ≠ listOf cs.toArray nc := fun e => by
  have e := congrArg Obj.data e
  injection e with e _
  have e := congrArg Array.toList e
  simp at e
  subst e
  cases h
theorem noPy {lim : Int} (l0 : 2 ≤ lim) (l1 : lim ≤ 10 ^ 12) (x : Int) : Builtin.divisionGoesByPylong x lim = false :=
  PyProof.noPylong_of_log2 (Nat.lt_trans ((Nat.log2_lt (by omega)).mpr (show lim.natAbs < 2 ^ 41 by omega)) (by decide))
theorem fmod_ok {x lim : Int} (l0 : 2 ≤ lim) : 0 ≤ x.fmod lim ∧ x.fmod lim < lim := by
  rw [Int.fmod_eq_emod_of_nonneg _ (by omega)]
  exact ⟨Int.emod_nonneg _ (by omega), Int.emod_lt_of_pos _ (by omega)⟩
theorem fdiv_ok {x lim : Int} (l0 : 2 ≤ lim) (h : 0 ≤ x) : 0 ≤ x.fdiv lim := by
  rw [Int.fdiv_eq_ediv_of_nonneg _ (by omega)]
  exact Int.ediv_nonneg h (by omega)
end Mine
namespace Mine
theorem Pen.Ok.le {P : Pen} {b b' : Int} (h : P.Ok b) (hb : b ≤ b') : P.Ok b' := ⟨h.g0, h.m0, h.m1, h.p0, Int.le_trans h.p1 hb⟩
end Mine
namespace Mine
theorem perm7 {α : Type} {p cl I C D c1 c2 : α} {l : List α} : ∀ q ∈ p :: cl :: (I :: C :: D :: c1 :: c2 :: l), q ∈ I :: C :: D :: c1 :: c2 :: p :: cl :: l := by
  intro q hq
  simp only [List.mem_cons] at hq ⊢
  rcases hq with h | h | h | h | h | h | h | h <;> simp [h]
theorem perm8 {α : Type} {p cl I C D c1 c2 : α} {l l2 l3 : List α} : ∀ q ∈ I :: C :: D :: c1 :: c2 :: p :: cl :: ((l2 ++ l) ++ l3), q ∈ p :: cl :: (l2 ++ (I :: C :: D :: c1 :: c2 :: (l ++ l3))) := by
  intro q hq
  simp only [List.mem_cons, List.mem_append] at hq ⊢
  rcases hq with h | h | h | h | h | h | h | (h | h) | h <;> simp [h]
theorem perm9 {α : Type} {p cl D c1 c2 : α} {l l3 : List α} : ∀ q ∈ p :: cl :: ((D :: l) ++ l3), q ∈ D :: c1 :: c2 :: p :: cl :: (l ++ l3) := by
  intro q hq
  simp only [List.mem_cons, List.mem_append] at hq ⊢
  rcases hq with h | h | (h | h) | h <;> simp [h]
end Mine
namespace Mine
theorem permA {α : Type} {x dx p cl : α} {l2 l : List α} : ∀ q ∈ p :: cl :: l, q ∈ x :: dx :: (l2 ++ (p :: cl :: l)) := by
  intro q hq
  simp only [List.mem_cons, List.mem_append] at hq ⊢
  rcases hq with h | h | h <;> simp [h]
theorem permB {α : Type} {p cl : α} {l : List α} : ∀ q ∈ [p, cl], q ∈ p :: cl :: l := by
  intro q hq
  simp only [List.mem_cons, List.not_mem_nil, or_false] at hq ⊢
  rcases hq with h | h <;> simp [h]
end Mine
end
/-! Hex -/
section
open PySem PySem.W PySem.Calls PySem.NumText PyProof.Rows
set_option Elab.async false
set_option maxRecDepth 100000
namespace Mine
theorem typeCall_int_2 (a b : Value) : checkTypeCall "int" ⟨[a, b], []⟩ = pure () := by kernel_rfl
theorem newCall_int_2 (a b : Value) : checkBuiltinCall "int.__new__" ⟨[.type "int", a, b], []⟩ = pure () := by kernel_rfl
theorem args_init_3 (a b c : Value) : argsOk "object.__init__" ⟨[a, b, c], []⟩ := by unfold argsOk; kernel_rfl

theorem read16 {c : Nat} {n : Nat} (hc : digit? c = some n) (hn : n < 16) (h1 : c ≠ 95) (h2 : blank c = false) (h3 : c ≠ 45) (h4 : c ≠ 43) : (int_private% "readNumeral") 0 16 [c] = (int_private% "Numeral.value") (n : Int) := by
  rw [readNumeral_eq]
  have e1 : [c].dropWhile blank = [c] := by simp [List.dropWhile, h2]
  have e2 : sign [c] = (false, [c]) := by
    unfold sign
    split <;> simp_all
  have e3 : based 16 [c] = (16, false, [c]) := by
    have : prefix? [c] = none := by unfold prefix?; split <;> simp_all
    unfold based; rw [this]; rfl
  rw [e1, e2, e3]
  have e4 : ([c].reverse.dropWhile blank).reverse = [c] := by simp [List.dropWhile, h2]
  rw [e4]
  have e5 : digits? 16 [c] = some #[n] := by
    unfold digits?
    simp [NumText.step, hc, hn, h1]
  rw [e5]
  unfold judge
  simp
set_option maxHeartbeats 4000000 in
theorem gives_hex {c : Nat} {n : Nat} {u v : Tok} (hc : digit? c = some n) (hn : n < 16) (h1 : c ≠ 95) (h2 : blank c = false) (h3 : c ≠ 45) (h4 : c ≠ 43) (h5 : c < 128) (h6 : c ≠ 0) : Gives (Builtin.«int.__new__» ⟨[.type "int", .str ⟨#[c]⟩ u, .int 16 v], []⟩) (.int (n : Int)) :=
  .of_wp fun M A E s Q h => by
    obtain ⟨hp, g, d, tk, os⟩ := s
    have f1 := F.conv_sub_int
    have f2 := F.madeHere_int
    have hr := read16 hc hn h1 h2 h3 h4
    have hk := KIN.Hid.mk hr
    have ht : (if (⟨#[c]⟩ : Str).cps.all (· < 128) then (⟨#[c]⟩ : Str).cps.toList else Unicode.numberText (⟨#[c]⟩ : Str).cps.toList) = [c] := by simp [h5]
    clear hr
    have hw : [c].takeWhile (· != 0) = [c] := by simp [h6]
    repeat (any_goals (first
      | assumption
      | wp_step))
    rw [ht, hw, show Int.toNat 16 = 16 from rfl, hk.out]
    dsimp only
    repeat (any_goals (first
      | assumption
      | (with_reducible refine wpAny_ite_true (by decide) ?_)
      | wp_step))
    all_goals first | exact ⟨_, rfl, h⟩ | skip
theorem call_hex {prog : Program} {w : World} {A : Around} {E : Value → Shared → Prop} {s : Shared} {Q : Value → Shared → Prop} {c : Nat} {n : Nat} {u v : Tok} (hc : digit? c = some n) (hn : n < 16) (h1 : c ≠ 95) (h2 : blank c = false) (h3 : c ≠ 45) (h4 : c ≠ 43) (h5 : c < 128) (h6 : c ≠ 0)
    (h : Q (.int (n : Int) s.toks) { s with toks := s.toks + 1 }) : wpAny (model prog w) A (call (.type "int") [.str ⟨#[c]⟩ u, .int 16 v]) Q E s :=
  callType_new F.called_int F.newNe_int (typeCall_int_2 _ _) (newCall_int_2 _ _) (fun obj => args_init_3 obj _ _) F.entry_int_new (gives_hex hc hn h1 h2 h3 h4 h5 h6).meets (show (Made.int (n : Int)).post _ s from ⟨rfl, h⟩)

/-- a hex sign and its worth -/
structure HexD (g n : Nat) : Prop where
  dig : digit? g = some n
  lt : n < 16
  h1 : g ≠ 95
  h2 : blank g = false
  h3 : g ≠ 45
  h4 : g ≠ 43
  h5 : g < 128
  h6 : g ≠ 0
  mem : g ∈ ([48, 49, 50, 51, 52, 53, 54, 55, 56, 57, 97, 98, 99, 100, 101, 102, 65, 66, 67, 68, 69, 70] : List Nat)
theorem call_hexD {prog : Program} {w : World} {A : Around} {E : Value → Shared → Prop} {s : Shared} {Q : Value → Shared → Prop} {c : Nat} {n : Nat} {u v : Tok} (H : HexD c n)
    (h : Q (.int (n : Int) s.toks) { s with toks := s.toks + 1 }) : wpAny (model prog w) A (call (.type "int") [.str ⟨#[c]⟩ u, .int 16 v]) Q E s :=
  call_hex H.dig H.lt H.h1 H.h2 H.h3 H.h4 H.h5 H.h6 h
end Mine
end
/-! Esc -/
section
open PySem PySem.W PySem.Calls PySem.NumText PyProof.Rows
set_option Elab.async false
namespace Mine
def hexd (n : Nat) : Nat := if n < 10 then 48 + n else 87 + n
theorem hexD_of {n : Nat} (h : n < 16) : HexD (hexd n) n where
  dig := by revert n; decide
  lt := h
  h1 := by revert n; decide
  h2 := by revert n; decide
  h3 := by revert n; decide
  h4 := by revert n; decide
  h5 := by revert n; decide
  h6 := by revert n; decide
  mem := by revert n; decide
/-- a sign as escaped_sign lays it, for the end sign e -/
def escN (e c : Nat) : List Nat :=
  if c = 10 then [92, 110] else if c = 9 then [92, 116] else if c = e ∨ c = 92 then [92, c]
  else if (c < 32 ∨ 126 < c) ∧ c < 256 then [92, 120, hexd (c / 16), hexd (c % 16)] else [c]
def escL (e : Nat) (w : List Nat) : List Nat := w.flatMap (escN e)
/-- what stands behind a backslash, and the sign that it means -/
inductive EscF : List Nat → Nat → Prop
  | n : EscF [110] 10
  | t : EscF [116] 9
  | dq : EscF [34] 34
  | sq : EscF [39] 39
  | sl : EscF [47] 47
  | ba : EscF [124] 124
  | bs : EscF [92] 92
  | x {g1 g2 n1 n2 : Nat} : HexD g1 n1 → HexD g2 n2 → EscF [120, g1, g2] (n1 * 16 + n2)
def Ends (e : Nat) : Prop := e = 34 ∨ e = 39 ∨ e = 47 ∨ e = 124
theorem escOf {e : Nat} (he : Ends e) (c : Nat) : (escN e c = [c] ∧ c ≠ e ∧ c ≠ 92) ∨ ∃ v, escN e c = 92 :: v ∧ EscF v c := by
  unfold escN
  split
  · rename_i h; subst h; exact .inr ⟨_, rfl, .n⟩
  · split
    · rename_i h; subst h; exact .inr ⟨_, rfl, .t⟩
    · split
      · rename_i h
        refine .inr ⟨_, rfl, ?_⟩
        rcases h with h | h
        · subst h
          rcases he with h | h | h | h <;> subst h
          · exact .dq
          · exact .sq
          · exact .sl
          · exact .ba
        · subst h; exact .bs
      · rename_i h
        split
        · rename_i h2
          refine .inr ⟨_, rfl, ?_⟩
          have := EscF.x (hexD_of (n := c / 16) (by omega)) (hexD_of (n := c % 16) (by omega))
          rwa [show c / 16 * 16 + c % 16 = c by omega] at this
        · exact .inl ⟨rfl, fun q => h (.inl q), fun q => h (.inr q)⟩
theorem Ends.ne {e : Nat} (h : Ends e) : e ≠ 92 := by rcases h with h | h | h | h <;> omega
def mk (l : List Nat) : Str := ⟨l.toArray⟩
theorem mk_len (l : List Nat) : (mk l).length = l.length := by simp [mk, Str.length]
def joinL (sep : List Nat) : List (List Nat) → List Nat
  | [] => []
  | [t] => t
  | t :: u :: r => t ++ sep ++ joinL sep (u :: r)
theorem foldl_mk (sep : List Nat) : ∀ (ts : List (List Nat)) (acc : List Nat), (ts.map mk).foldl (fun (a : Array Nat) p => a ++ (mk sep).cps ++ p.cps) acc.toArray = (acc ++ (ts.map (sep ++ ·)).flatten).toArray
  | [], acc => by simp
  | t :: ts, acc => by
    have := foldl_mk sep ts (acc ++ sep ++ t)
    simp only [List.map_cons, List.foldl_cons, List.flatten_cons]
    rw [show acc.toArray ++ (mk sep).cps ++ (mk t).cps = (acc ++ sep ++ t).toArray by simp [mk], this]
    simp
theorem joinL_cons (sep t : List Nat) : ∀ ts : List (List Nat), joinL sep (t :: ts) = t ++ (ts.map (sep ++ ·)).flatten
  | [] => by simp [joinL]
  | u :: r => by rw [joinL, joinL_cons sep u r]; simp
theorem join_mk (sep : List Nat) : ∀ ts : List (List Nat), Txt.join (mk sep) (ts.map mk) = mk (joinL sep ts)
  | [] => by simp [Txt.join, Builtin.Str.glued, joinL, mk, Str.empty]
  | t :: ts => by
    show (⟨((List.map mk (t :: ts)).drop 1).foldl _ _⟩ : Str) = _
    rw [joinL_cons]
    simp only [List.map_cons, List.drop_succ_cons, List.drop_zero, List.headD_cons]
    exact congrArg Str.mk (foldl_mk sep ts t)
theorem joinL_nil : ∀ ts : List (List Nat), joinL [] ts = ts.flatten
  | [] => rfl
  | t :: ts => by rw [joinL_cons]; simp
theorem join_sgl (w : List Nat) : Txt.join (mk []) (w.map fun c => mk [c]) = mk w := by
  have := join_mk [] (w.map fun c => [c])
  rw [List.map_map] at this
  refine this.trans (congrArg mk ?_)
  rw [joinL_nil]
  clear this
  induction w with
  | nil => rfl
  | cons c w ih => simp [ih]
theorem join_esc (e : Nat) (w : List Nat) : Txt.join (mk []) (w.map fun c => mk (escN e c)) = mk (escL e w) := by
  have := join_mk [] (w.map (escN e))
  rw [List.map_map] at this
  refine this.trans (congrArg mk ?_)
  rw [joinL_nil, escL, List.flatMap]
theorem escL_cons (e c : Nat) (w : List Nat) : escL e (c :: w) = escN e c ++ escL e w := by simp [escL]
theorem escN_len (e c : Nat) : 1 ≤ (escN e c).length ∧ (escN e c).length ≤ 4 := by
  unfold escN; repeat' split
  all_goals simp
theorem escL_len (e : Nat) (w : List Nat) : (escL e w).length ≤ 4 * w.length := by
  induction w with
  | nil => simp [escL]
  | cons c w ih => rw [escL_cons, List.length_append, List.length_cons]; have := escN_len e c; omega

theorem join_at {prog : Program} {w : World} {A : Around} {E : Value → Shared → Prop} {s : Shared} {h₀ : Heap} {L D : Addr} {news : List (Addr × Obj)} {sep : Str} {t : Tok} {l : List (Str × Tok)} {texts : List Str} {its : Array Value} {n : Nat} {r : Str} {Q : Value → Shared → Prop}
    (N : News h₀ L s.heap news) (hm : (D, listOf its n) ∈ news) (hi : its = (strValues l).toArray) (ht : l.map (·.1) = texts) (hok : JoinOk sep texts = true) (hr : Txt.join sep texts = r)
    (hq : ∀ t' k, Q (.str r t') { s with toks := k }) : wpAny (model prog w) A (call (.builtin "str.join") [.str sep t, .ref D]) Q E s := by
  subst hi
  subst hr
  exact SC.join ⟨_, N.get hm, rfl, n, rfl⟩ ht hok hq
theorem sum_le (k c : Nat) : ∀ (ts : List Str) (a : Nat), (∀ t ∈ ts, t.length ≤ c) → ts.foldl (fun acc x => acc + x.length + k) a ≤ a + ts.length * (c + k)
  | [], a, _ => by simp
  | t :: ts, a, h => by
    have h1 := h t (.head _)
    have := sum_le k c ts (a + t.length + k) fun x hx => h x (.tail _ hx)
    simp only [List.foldl_cons, List.length_cons]
    rw [Nat.succ_mul]
    omega
theorem joinOk_of {sep : Str} {ts : List Str} {m c : Nat} (h1 : ts.length ≤ m) (h2 : ∀ t ∈ ts, t.length ≤ c) (h3 : m * (c + sep.length) ≤ 100000) : JoinOk sep ts = true := by
  unfold JoinOk
  have h := sum_le sep.length c ts 0 h2
  have h4 : ts.length * (c + sep.length) ≤ m * (c + sep.length) := Nat.mul_le_mul_right _ h1
  have : Builtin.Str.tooLong (ts.toArray.foldl (fun acc x => acc + x.length + sep.length) 0) = false := by
    rw [List.foldl_toArray]
    unfold Builtin.Str.tooLong
    rw [sizeLine_eq]
    rw [decide_eq_false_iff_not]
    omega
  rw [this]; rfl

theorem strValues_snoc (l : List (Str × Tok)) (x : Str) (t : Tok) : (strValues (l ++ [(x, t)])).toArray = (strValues l).toArray.push (.str x t) := by simp [strValues]
theorem strValues_size (l : List (Str × Tok)) : (strValues l).toArray.size = l.length := by simp [strValues]
theorem escL_snoc (e : Nat) (w : List Nat) (c : Nat) : escL e (w ++ [c]) = escL e w ++ escN e c := by simp [escL]

theorem mk_append (a b : List Nat) : mk a ++ mk b = mk (a ++ b) := by
  show Str.mk (a.toArray ++ b.toArray) = _
  simp [mk]
end Mine
end
/-! Val -/
section
open PySem PySem.W PySem.Calls PySem.NumText PyProof.Rows
set_option Elab.async false
namespace Mine
def numL (m : Nat) : List Nat := (Nat.toDigits 10 m).map Char.toNat
def intL (i : Int) : List Nat := if i < 0 then 45 :: numL i.natAbs else numL i.natAbs
theorem numL_dig (m : Nat) : AllDigits (numL m) := by
  intro c hc
  obtain ⟨ch, hch, e⟩ := List.mem_map.mp hc
  have r := digit_range (Nat.isDigit_of_mem_toDigits (by decide) (by decide) hch)
  rw [← e]; exact r
theorem numL_ne (m : Nat) : numL m ≠ [] := by
  intro e
  have h := toDigits_len_ge 10 m
  rw [List.map_eq_nil_iff.mp e] at h
  exact absurd h (by decide)
theorem numL_len {m : Nat} (h : m < 10 ^ 12) : (numL m).length ≤ 12 := by
  rw [numL, List.length_map]
  exact Nat.length_toDigits_le_iff (by decide) (by decide) |>.mpr h
theorem numL_text {m : Nat} (h : m < 10 ^ 12) : PySem.intText? (mk (numL m)) = some (m : Int) := by
  have e := intText_digits (x := mk (numL m)) (by simpa [mk] using numL_dig m) (by simpa [mk] using numL_ne m) (by rw [mk_len]; have := numL_len h; omega)
  rw [e]
  have : (mk (numL m)).cps.toList = numL m := by simp [mk]
  rw [this, numL, KIN.val_back]
theorem text_num (m : Nat) : (Str.ofString (toString ((m : Nat) : Int))) = mk (numL m) := by
  have := KIN.signs_num m
  apply Str.ext'
  show _ = (numL m).toArray
  rw [← Array.toArray_toList (xs := (Str.ofString _).cps), this]; rfl
theorem text_int (i : Int) : Str.ofString (toString i) = mk (intL i) := by
  unfold intL
  by_cases h : i < 0
  · rw [if_pos h]
    obtain ⟨m, rfl⟩ : ∃ m : Nat, i = Int.negSucc m := ⟨i.natAbs - 1, by omega⟩
    have e := signs_ofString (toString (Int.negSucc m))
    apply Str.ext'
    show _ = (45 :: numL _).toArray
    rw [← Array.toArray_toList (xs := (Str.ofString _).cps), e]
    show ((toString "-" ++ Nat.repr (m + 1) : String).toList.map Char.toNat).toArray = _
    rw [String.toList_append, Nat.toList_repr]
    rfl
  · rw [if_neg h]
    obtain ⟨m, rfl⟩ := Int.eq_ofNat_of_zero_le (Int.not_lt.mp h)
    exact text_num m
theorem numL_head (m : Nat) : ∃ c r, numL m = c :: r ∧ 48 ≤ c ∧ c ≤ 57 := by
  cases e : numL m with
  | nil => exact absurd e (numL_ne m)
  | cons c r => exact ⟨c, r, rfl, numL_dig m c (by rw [e]; exact List.mem_cons_self)⟩
def sgs : List Nat := [97, 47, 34, 39, 10, 92, 120, 9, 124, 55, 1, 127, 233, 1046, 102, 44]
def WordOk (x : Str) : Prop := x.cps.size ≤ 6 ∧ ∀ c ∈ x.cps.toList, c ∈ sgs
mutual
def showD : Dat → List Nat
  | .none => [110, 111, 110, 101]
  | .int i => intL i
  | .str x => 34 :: (escL 34 x.cps.toList ++ [34])
  | .list ds => 91 :: (joinL [44, 32] (showDs ds) ++ [93])
  | _ => []
def showDs : List Dat → List (List Nat)
  | [] => []
  | d :: ds => showD d :: showDs ds
end
theorem showDs_map : ∀ ds : List Dat, showDs ds = ds.map showD
  | [] => by simp [showDs]
  | d :: ds => by simp [showDs, showDs_map ds]
def ValOk : Nat → Dat → Prop
  | _, .none => True
  | _, .int i => -1000 ≤ i ∧ i < 10 ^ 12
  | _, .str x => WordOk x
  | k + 1, .list ds => ds.length ≤ 3 ∧ ∀ d ∈ ds, ValOk k d
  | _, _ => False
theorem ValOk.mono {k : Nat} : ∀ {d : Dat}, ValOk k d → ValOk (k + 1) d := by
  induction k with
  | zero => intro d h; cases d <;> simp_all [ValOk]
  | succ k ih =>
    intro d h
    cases d with
    | list ds => exact ⟨h.1, fun x hx => ih (h.2 x hx)⟩
    | _ => simp_all [ValOk]
/-- the first sign of what is shown -/
theorem show_head {k : Nat} {d : Dat} (h : ValOk k d) : ∃ c r, showD d = c :: r ∧ c ≠ 93 ∧ c ≠ 44 := by
  cases d with
  | none => exact ⟨_, _, rfl, by decide, by decide⟩
  | int i =>
    rw [showD, intL]
    split
    · exact ⟨_, _, rfl, by decide, by decide⟩
    · obtain ⟨c, r, e, h1, h2⟩ := numL_head i.natAbs
      exact ⟨c, r, e, by omega, by omega⟩
  | str x => exact ⟨_, _, rfl, by decide, by decide⟩
  | list ds => exact ⟨_, _, rfl, by decide, by decide⟩
  | _ => cases k <;> simp [ValOk] at h
theorem intL_len {i : Int} (h1 : -1000 ≤ i) (h2 : i < 10 ^ 12) : (intL i).length ≤ 13 := by
  have := numL_len (m := i.natAbs) (by omega)
  unfold intL; split
  · rw [List.length_cons]; omega
  · omega
/-- how long a shown value is at most -/
def big : Nat → Nat
  | 0 => 26
  | k + 1 => 3 * big k + 8
theorem big_ge : ∀ k, 26 ≤ big k
  | 0 => Nat.le_refl _
  | k + 1 => by have := big_ge k; unfold big; omega
theorem joinL_len {B : Nat} : ∀ (ts : List (List Nat)), (∀ t ∈ ts, t.length ≤ B) → (joinL [44, 32] ts).length + 2 ≤ ts.length * (B + 2) + 2
  | [], _ => by simp [joinL]
  | t :: ts, h => by
    rw [joinL_cons, List.length_append]
    have h1 := h t (.head _)
    have h2 : ((ts.map ([44, 32] ++ ·)).flatten).length ≤ ts.length * (B + 2) := by
      have h' : ∀ u ∈ ts, u.length ≤ B := fun u hu => h u (.tail _ hu)
      clear h h1
      induction ts with
      | nil => simp
      | cons u us ih =>
        have hu := h' u (.head _)
        have := ih fun z hz => h' z (.tail _ hz)
        simp only [List.map_cons, List.flatten_cons, List.length_append, List.length_cons, List.length_nil, Nat.succ_mul] at *
        omega
    rw [List.length_cons, Nat.succ_mul]
    omega
theorem show_len : ∀ (k : Nat) (d : Dat), ValOk k d → (showD d).length ≤ big k := by
  intro k
  induction k with
  | zero =>
    intro d h
    cases d with
    | none => simp [showD, big]
    | int i => have := intL_len h.1 h.2; rw [showD]; unfold big; omega
    | str x =>
      have h1 : x.cps.toList.length ≤ 6 := by simpa using h.1
      have := escL_len 34 x.cps.toList
      rw [showD, List.length_cons, List.length_append]
      simp only [List.length_cons, List.length_nil]
      unfold big; omega
    | _ => simp [ValOk] at h
  | succ k ih =>
    intro d h
    have hb := big_ge (k + 1)
    cases d with
    | none => simp only [showD, List.length_cons, List.length_nil]; omega
    | int i => have := intL_len h.1 h.2; rw [showD]; omega
    | str x =>
      have h1 : x.cps.toList.length ≤ 6 := by simpa using h.1
      have := escL_len 34 x.cps.toList
      rw [showD, List.length_cons, List.length_append]
      simp only [List.length_cons, List.length_nil]
      omega
    | list ds =>
      rw [showD, List.length_cons, List.length_append, showDs_map]
      have := joinL_len (B := big k) (ds.map showD) (fun t ht => by obtain ⟨d, hd, rfl⟩ := List.mem_map.mp ht; exact ih d (h.2 d hd))
      rw [List.length_map] at this
      have h3 := h.1
      have h4 : ds.length * (big k + 2) ≤ 3 * (big k + 2) := Nat.mul_le_mul_right _ h3
      simp only [List.length_cons, List.length_nil]
      rw [big]; omega
    | _ => simp [ValOk] at h
end Mine
end
/-! CompS -/
section
open PySem PySem.W PySem.Calls PySem.Spec PyProof.Rows PyProof.Rows.LCg
set_option Elab.async false
namespace Mine
section
variable {prog : Program} {w : World} {A : Around} {E : Value → Shared → Prop} {s : Shared} {h₀ : Heap} {L : Addr} {m : Str → Option Value} {env : Env}
def SrcS (prog : Program) (w : World) (A : Around) (h₀ : Heap) (L : Addr) (m : Str → Option Value) (env : Env) (elt : Expr) (x : Str) (scope : Scope) (cl : List (Str × Addr)) (Fin : Shared → List Value → List (Addr × Obj) → Prop) (xv : Value) (s₁ : Shared) : Prop :=
  ∃ tx t news, xv = .str tx t ∧ A.handled = none ∧ Fr h₀ L s₁.heap m ∧ News h₀ L s₁.heap news ∧ tx.cps.size ≤ sizeLine ∧
    ∀ s₂ : Shared, (∃ h, s₂ = { s₁ with heap := h }) → CompRest prog w A h₀ L m env elt x scope cl s₂ (fun _ => True) (SignAt tx) (Fin s₂) tx.cps.size 0 [] news
theorem ListComp_S {elt iter : Expr} {x : Str} {px : Pos} {scope : Scope} {cl : List (Str × Addr)} {pos : Pos} {Q : Value → Shared → Prop} (F₀ : Fr h₀ L s.heap m)
    (hclos : closureFor scope env = pure cl) (hcell : ∀ y ∈ scope.names, y.2 ≠ .cell) (hkind : scope.kind = .function)
    (hnames : ∀ y ∈ scope.names, y.2 = .local → scope.names.lookup y.1 = some .local) (hx : scope.names.lookup x = some .local)
    (h : wpAny (model prog w) A (eval iter env) (SrcS prog w A h₀ L m env elt x scope cl (fun s₂ => FinE h₀ L m s₂ Q)) E s)
    (hs : ∀ x, foldedSetIterable iter env x = pure x := by intro _; rfl) :
    wpAny (model prog w) A (eval (.ListComp elt [⟨.Name x px, iter, [], 0⟩] scope pos) env) Q E s := by
  rw [eval_ListComp]
  refine wpAny_comprehension_free (use := none) rfl hs hclos hkind hnames (wpAny_mono h (fun xv s₁ h₁ => ?_) fun _ _ e => e)
  obtain ⟨tx, t, news, rfl, hh, F, N, hsz, R⟩ := h₁
  have go : ∀ (T : String) (o : Obj), Walks prog w A s₁.heap.objs.size [s₁.heap.objs.size] [s₁.heap.objs.size] tx.cps.size (SignAt tx) (fun i h => h.IsStrIter s₁.heap.objs.size T tx t i) →
      (s₁.heap.push o).IsStrIter s₁.heap.objs.size T tx t 0 →
      wpAny (model prog w) A (newList []) (fun acc s₃ => wpAny (model prog w) A (newFunctionEnv scope env.globals cl [] env.qual none .none (some env)) (fun cenv s₄ =>
        codeAny (model prog w) A (.compStart (.ListComp elt [⟨.Name x px, iter, [], 0⟩] scope pos) 0 (.ref s₁.heap.objs.size) acc { cenv with scope := relabel scope env }) (compPost (model prog w) A E none Q acc cenv.locals) s₄) E s₃) E { s₁ with heap := s₁.heap.push o } := by
    intro T o W hst
    refine block_U W hsz (fun i h st => let ⟨o, ho, _⟩ := st; ⟨o, ho⟩) (S := fun _ => True)
      (fun i h h' o nw st e e' _ _ _ => let ⟨o', q, r⟩ := st; ⟨o', (by rw [e] at q; cases q; exact e'), r⟩) hcell hkind hx hst (fun b hb => ?_)
      (F.keeps fun _ _ e => Heap.get?_push_of_some _ e) (N.grown fun _ _ e => Heap.get?_push_of_some _ e) (Nat.ne_of_lt F.ns.lt) (next_is_new F) (fun p hp => Nat.ne_of_lt (Heap.lt_size (N p hp).1)) trivial (R _ ⟨_, rfl⟩) ?_
    · rw [List.mem_singleton.mp hb]
      show s₁.heap.objs.size < (s₁.heap.push _).objs.size
      rw [Heap.size_push]; exact Nat.lt_succ_self _
    · intro D C h tk m' ys news' F' N' o1 hn hC₀ hD₀ hCL hDL hCD offC fin
      refine ⟨m', hn, fun h'' hs'' => fin D h'' tk (F'.change hs'' hCL hC₀) (fun p hp => ?_) o1⟩
      refine ⟨hs''.extBut _ _ ?_ (N' p hp).1, (N' p hp).2⟩
      rcases List.mem_cons.mp hp with rfl | hp
      · exact Ne.symm hCD
      · exact offC p hp
  cases ha : tx.cps.all (· < 128)
  · exact wpAny_pyIter_wide ha (go "str_iterator" _ (Walks.strWide hh _ tx t) ⟨_, Heap.get?_push_size _ rfl, rfl, rfl⟩)
  · exact wpAny_pyIter_ascii ha (go "str_ascii_iterator" _ (Walks.strAscii hh _ tx t) ⟨_, Heap.get?_push_size _ rfl, rfl, rfl⟩)

/-- a comprehension whose element makes a text of each sign and leaves the ledger as it was -/
theorem comp_str {elt : Expr} {x : Str} {scope : Scope} {cl : List (Str × Addr)} {Fin : List Value → List (Addr × Obj) → Prop} {news : List (Addr × Obj)} {tx : Str} (g : Nat → Str)
    (turn : ∀ c t I oI C oC D m₂ ys h tk (E' : Value → Shared → Prop), c ∈ tx.cps.toList → NsObj oC m₂ → m₂ x = some (.str ⟨#[c]⟩ t) → Fr h₀ L h m → News h₀ L h ((I, oI) :: (C, oC) :: (D, lst ys) :: news) → Off3 I C D news → ((@Ne Nat I C) ∧ (@Ne Nat I D) ∧ (@Ne Nat C D)) →
      wpAny (model prog w) A (eval elt (compEnvC scope cl C env)) (CompEnd h₀ L m { s with heap := h, toks := tk } I oI C oC D (lst ys) (fun _ => True) (fun y news' => news' = news ∧ ∃ t, y = .str (g c) t)) E' { s with heap := h, toks := tk })
    (fin : ∀ l : List (Str × Tok), l.map (·.1) = tx.cps.toList.map g → Fin (strValues l) news) : CompRest prog w A h₀ L m env elt x scope cl s (fun _ => True) (SignAt tx) Fin tx.cps.size 0 [] news := by
  have key : ∀ (j i : Nat) (l : List (Str × Tok)), i + j = tx.cps.size → l.map (·.1) = (tx.cps.toList.take i).map g → CompRest prog w A h₀ L m env elt x scope cl s (fun _ => True) (SignAt tx) Fin j i (strValues l) news := by
    intro j
    induction j with
    | zero =>
      intro i l hi hl
      have e : i = tx.cps.toList.length := by rw [Array.length_toList]; omega
      subst e
      rw [List.take_length] at hl
      exact CompRest.zero (fin l hl)
    | succ j ih =>
      intro i l hi hl
      refine CompRest.succ ?_
      intro v I oI C oC D m₂ h tk E' hv hC hx F N off ne
      obtain ⟨c, u, hc, rfl⟩ := hv
      have hc' : tx.cps.toList[i]? = some c := by rw [Array.getElem?_toList]; exact hc
      refine wpAny_mono (turn c u I oI C oC D m₂ _ h tk E' (List.mem_of_getElem? hc') hC hx F N off ne) (fun y s₂ hq => ?_) fun _ _ e => e
      obtain ⟨h', tk', nw, e, F', N', off', hS, hn, t', hy'⟩ := hq
      subst hn
      refine ⟨h', tk', nw, e, F', N', off', hS, ?_⟩
      rw [hy']
      have := ih (i + 1) (l ++ [(g c, t')]) (by omega) (by rw [List.take_add_one, hc']; simp [hl])
      rwa [show strValues (l ++ [(g c, t')]) = strValues l ++ [.str (g c) t'] by simp [strValues]] at this
  exact key _ 0 [] (by omega) rfl
end
end Mine
namespace Mine
section
variable {prog : Program} {w : World} {A : Around} {E : Value → Shared → Prop} {s : Shared} {h₀ : Heap} {L : Addr} {m : Str → Option Value} {env : Env}
/-- the same over a list whose items are known by their place -/
theorem comp_list {elt : Expr} {x : Str} {scope : Scope} {cl : List (Str × Addr)} {Fin : List Value → List (Addr × Obj) → Prop} {news : List (Addr × Obj)} {its : Array Value} {S : List (Addr × Obj) → Prop} (hSn : S news) (g : Nat → Str)
    (turn : ∀ i v I oI C oC D m₂ ys h tk (E' : Value → Shared → Prop), its[i]? = some v → NsObj oC m₂ → m₂ x = some v → Fr h₀ L h m → News h₀ L h ((I, oI) :: (C, oC) :: (D, lst ys) :: news) → Off3 I C D news → ((@Ne Nat I C) ∧ (@Ne Nat I D) ∧ (@Ne Nat C D)) →
      wpAny (model prog w) A (eval elt (compEnvC scope cl C env)) (CompEnd h₀ L m { s with heap := h, toks := tk } I oI C oC D (lst ys) S (fun y news' => news' = news ∧ ∃ t, y = .str (g i) t)) E' { s with heap := h, toks := tk })
    (fin : ∀ l : List (Str × Tok), l.map (·.1) = (List.range its.size).map g → Fin (strValues l) news) : CompRest prog w A h₀ L m env elt x scope cl s S (fun i v => its[i]? = some v) Fin its.size 0 [] news := by
  have key : ∀ (j i : Nat) (l : List (Str × Tok)), i + j = its.size → l.map (·.1) = (List.range i).map g → CompRest prog w A h₀ L m env elt x scope cl s S (fun i v => its[i]? = some v) Fin j i (strValues l) news := by
    intro j
    induction j with
    | zero =>
      intro i l hi hl
      obtain rfl : i = its.size := by omega
      exact CompRest.zero (fin l hl)
    | succ j ih =>
      intro i l hi hl
      refine CompRest.succ ?_
      intro v I oI C oC D m₂ h tk E' hv hC hx F N off ne
      refine wpAny_mono (turn i v I oI C oC D m₂ _ h tk E' hv hC hx F N off ne) (fun y s₂ hq => ?_) fun _ _ e => e
      obtain ⟨h', tk', nw, e, F', N', off', hS, hn, t', hy'⟩ := hq
      subst hn
      refine ⟨h', tk', nw, e, F', N', off', hS, ?_⟩
      rw [hy']
      have := ih (i + 1) (l ++ [(g i, t')]) (by omega) (by rw [List.range_succ]; simp [hl])
      rwa [show strValues (l ++ [(g i, t')]) = strValues l ++ [.str (g i) t'] by simp [strValues]] at this
  exact key _ 0 [] (by omega) rfl
end
end Mine
namespace Mine
section
variable {prog : Program} {w : World} {A : Around} {s : Shared} {h₀ : Heap} {L : Addr} {m : Str → Option Value} {env : Env}
/-- a comprehension by what holds between its turns -/
theorem comp_gen {σ : Type} {elt : Expr} {x : Str} {scope : Scope} {cl : List (Str × Addr)} {Fin : List Value → List (Addr × Obj) → Prop} {S : List (Addr × Obj) → Prop} {P : Nat → Value → Prop} {n : Nat} (Led : σ → List (Addr × Obj)) (Inv : Nat → σ → List Value → Prop) (c₀ : σ) (h0 : Inv 0 c₀ [])
    (turn : ∀ i c ys v I oI C oC D m₂ h tk (E' : Value → Shared → Prop), i < n → P i v → Inv i c ys → NsObj oC m₂ → m₂ x = some v → Fr h₀ L h m → News h₀ L h ((I, oI) :: (C, oC) :: (D, lst ys) :: Led c) → Off3 I C D (Led c) → ((@Ne Nat I C) ∧ (@Ne Nat I D) ∧ (@Ne Nat C D)) →
      wpAny (model prog w) A (eval elt (compEnvC scope cl C env)) (CompEnd h₀ L m { s with heap := h, toks := tk } I oI C oC D (lst ys) S (fun y news' => ∃ c', news' = Led c' ∧ Inv (i + 1) c' (ys ++ [y]))) E' { s with heap := h, toks := tk })
    (fin : ∀ c ys, Inv n c ys → Fin ys (Led c)) : CompRest prog w A h₀ L m env elt x scope cl s S P Fin n 0 [] (Led c₀) := by
  have key : ∀ (j i : Nat) (c : σ) (ys : List Value), i + j = n → Inv i c ys → CompRest prog w A h₀ L m env elt x scope cl s S P Fin j i ys (Led c) := by
    intro j
    induction j with
    | zero =>
      intro i c ys hi hI
      obtain rfl : i = n := by omega
      exact CompRest.zero (fin c ys hI)
    | succ j ih =>
      intro i c ys hi hI
      refine CompRest.succ ?_
      intro v I oI C oC D m₂ h tk E' hv hC hx F N off ne
      refine wpAny_mono (turn i c ys v I oI C oC D m₂ h tk E' (by omega) hv hI hC hx F N off ne) (fun y s₂ hq => ?_) fun _ _ e => e
      obtain ⟨h', tk', nw, e, F', N', off', hS, c', hn, hI'⟩ := hq
      subst hn
      exact ⟨h', tk', _, e, F', N', off', hS, ih (i + 1) c' _ (by omega) hI'⟩
  exact key n 0 c₀ [] (by omega) h0
end
end Mine
namespace Mine
theorem off1_mem {D : Addr} : ∀ {l : List (Addr × Obj)}, Off1 D l → ∀ p ∈ l, @Ne Nat p.1 D
  | [], _, _, h => nomatch h
  | _ :: _, x, p, h => by
    rcases List.mem_cons.mp h with rfl | h
    · exact x.1
    · exact off1_mem x.2 p h
end Mine
end
/-! Sign -/
section
open PySem PySem.W PySem.Calls PyProof.Rows
set_option Elab.async false
namespace Mine
def sigOk (v : Value) : Bool := match v with
  | .str x _ => (match x.cps.toList with | [c] => sgs.contains c | _ => false)
  | _ => false
theorem sigOk_spec {v : Value} (h : sigOk v = true) : ∃ c t, v = .str (mk [c]) t ∧ c ∈ sgs := by
  unfold sigOk at h
  split at h
  · rename_i x t
    split at h
    · rename_i c hc
      refine ⟨c, t, ?_, by simpa using h⟩
      congr 1
      apply Str.ext'
      show x.cps = [c].toArray
      rw [← hc, Array.toArray_toList]
    · cases h
  · cases h
theorem sign_item {prog : Program} {w : World} {A : Around} {E : Value → Shared → Prop} {s : Shared} {l : Addr} {its : Array Value} {value slice : Expr} {d : Int} {u : Tok} {Q : Value → Shared → Prop}
    (hl : s.heap.IsList l its) (hs1 : its.size = 16) (hs2 : its.all sigOk = true) (h0 : 0 ≤ d) (h1 : d < 16) (h : ∀ c t, c ∈ sgs → Q (.str (mk [c]) t) s)
    (hs : subscripted slice false (.ref l) (.int d u) = operate [.ref l, .int d u] (getItem (.ref l) (.int d u)) := by with_unfolding_all rfl) :
    wpAny (model prog w) A (subscriptTail value slice (.ref l) (.int d u)) Q E s := by
  have hd : d.toNat < its.size := by omega
  obtain ⟨c, t, e, hc⟩ := sigOk_spec (Array.all_eq_true.mp hs2 d.toNat hd)
  exact tail_any hl.typeIs slot_list_getitem.lookup (wpAny_getItem_list hl h0 (by omega) (Array.getElem?_eq_getElem hd) (by rw [e]; exact h c t hc)) hs
end Mine
namespace Mine
theorem sign_K {prog : Program} {w : World} {A : Around} {E : Value → Shared → Prop} {s : Shared} {K : Frag} {h₀ : Heap} {L l : Addr} {m : Str → Option Value} {od : Option Addr} {n : Nat} {sl : Array (Option Value)} {its : Array Value} {value slice : Expr} {d : Int} {u : Tok} {Q : Value → Shared → Prop}
    (X : K.In h₀) (F : Fr h₀ L s.heap m) (e : K.lookup l = some ⟨.type "list", od, .seq its n, sl⟩) (hs1 : its.size = 16) (hs2 : its.all sigOk = true) (h0 : 0 ≤ d) (h1 : d < 16) (h : ∀ c t, c ∈ sgs → Q (.str (mk [c]) t) s)
    (hs : subscripted slice false (.ref l) (.int d u) = operate [.ref l, .int d u] (getItem (.ref l) (.int d u)) := by with_unfolding_all rfl) :
    wpAny (model prog w) A (subscriptTail value slice (.ref l) (.int d u)) Q E s :=
  sign_item ⟨_, F.keep _ _ (X _ _ e), rfl, _, rfl⟩ hs1 hs2 h0 h1 h hs
end Mine
end
/-! Isi -/
section
open PySem PySem.W PySem.Calls PyProof.Rows
set_option Elab.async false
namespace Mine
theorem isi_list {prog : Program} {w : World} {A : Around} {E : Value → Shared → Prop} {s : Shared} {h₀ : Heap} {L a tp : Addr} {news : List (Addr × Obj)} {its : Array Value} {n : Nat} {Q : Value → Shared → Prop}
    (N : News h₀ L s.heap news) (hm : (a, listOf its n) ∈ news) (hp : (tp, ({ cls := .type "tuple", data := .seq #[.type "tuple", .type "list"] } : Obj)) ∈ news)
    (h : ∀ tk, Q (.bool true) { s with toks := tk }) : wpAny (model prog w) A (call (.builtin "isinstance") [.ref a, .ref tp]) Q E s :=
  IsiPair.tupleOfB (Tx := "list") (x := .ref a) (cs := [.type "tuple", .type "list"]) (vs := [false, true])
    (.cons (Answers.of_false_list (by decide +kernel) PySem.F.isi_meta_tuple PySem.F.sub_list_tuple) (.cons (Answers.of_true PySem.F.isi_meta_list PySem.F.sub_list_list) .nil))
    ⟨_, N.get hm, rfl⟩ (N.get hp) rfl h
theorem texts_eq {ds : List Dat} {f : Dat → Str} : (List.range ds.length).map (fun i => f (ds.getD i .none)) = ds.map f := by
  apply List.ext_getElem
  · simp
  · intro i h1 h2
    simp at h1 h2
    simp [List.getD_eq_getElem?_getD, List.getElem?_eq_getElem h1]
end Mine
end
/-! LawP -/
section
open PySem PySem.W PySem.Calls PySem.NumText PyProof.Rows PyProof.V PySem.Spec
set_option Elab.async false
namespace Mine
/-! no newline -/
theorem esc_nl {e c : Nat} (he : Ends e) : 10 ∉ escN e c := by
  have h1 : e ≠ 10 := by rcases he with h | h | h | h <;> omega
  have hx : ∀ n, n < 16 → hexd n ≠ 10 := by decide
  unfold escN
  repeat' split
  · simp
  · simp
  · rename_i h _ _; simp; omega
  · rename_i h
    have := hx (c / 16) (by omega)
    have := hx (c % 16) (by omega)
    simp
    omega
  · rename_i h _ _ _; simp; omega
theorem escL_nl {e : Nat} (he : Ends e) (w : List Nat) : 10 ∉ escL e w := by
  intro h
  obtain ⟨c, _, h⟩ := List.mem_flatMap.mp h
  exact esc_nl he h
theorem numL_nl (m : Nat) : 10 ∉ numL m := fun h => by have := numL_dig m 10 h; omega
theorem joinL_mem {sep : List Nat} {x : Nat} : ∀ {ts : List (List Nat)}, x ∈ joinL sep ts → x ∈ sep ∨ ∃ t ∈ ts, x ∈ t
  | [], h => by simp [joinL] at h
  | t :: ts, h => by
    rw [joinL_cons] at h
    rcases List.mem_append.mp h with h | h
    · exact .inr ⟨t, .head _, h⟩
    · obtain ⟨l, hl, hx⟩ := List.mem_flatten.mp h
      obtain ⟨u, hu, rfl⟩ := List.mem_map.mp hl
      rcases List.mem_append.mp hx with h | h
      · exact .inl h
      · exact .inr ⟨u, .tail _ hu, h⟩
theorem show_nl : ∀ (k : Nat) (d : Dat), ValOk k d → 10 ∉ showD d := by
  have leaf : ∀ (k : Nat) (d : Dat), ValOk k d → (∀ ds, d ≠ .list ds) → 10 ∉ showD d := by
    intro k d h hnl
    cases d with
    | none => simp [showD]
    | int i =>
      rw [showD, intL]
      split
      · simp [numL_nl]
      · exact numL_nl _
    | str x =>
      rw [showD]
      simp [escL_nl (e := 34) (.inl rfl)]
    | list ds => exact absurd rfl (hnl ds)
    | _ => cases k <;> simp [ValOk] at h
  intro k
  induction k with
  | zero => intro d h; exact leaf 0 d h (fun ds e => by subst e; simp [ValOk] at h)
  | succ k ih =>
    intro d h
    by_cases hl : ∃ ds, d = .list ds
    · obtain ⟨ds, rfl⟩ := hl
      rw [showD, showDs_map]
      intro hx
      rcases List.mem_cons.mp hx with hx | hx
      · omega
      · rcases List.mem_append.mp hx with hx | hx
        · rcases joinL_mem hx with hx | ⟨t, ht, hx⟩
          · simp at hx
          · obtain ⟨d, hd, rfl⟩ := List.mem_map.mp ht
            exact ih d (h.2 d hd) hx
        · simp at hx
    · exact leaf _ d h fun ds e => hl ⟨ds, e⟩
/-! no two values are shown alike -/
def Stp (r : List Nat) : Prop := ∀ c l, r = c :: l → c = 44 ∨ c = 93
theorem esc_head {c : Nat} : ∃ a l, escN 34 c = a :: l ∧ a ≠ 34 := by
  unfold escN
  repeat' split
  · exact ⟨_, _, rfl, by decide⟩
  · exact ⟨_, _, rfl, by decide⟩
  · exact ⟨_, _, rfl, by decide⟩
  · exact ⟨_, _, rfl, by decide⟩
  · rename_i h _; exact ⟨_, _, rfl, fun e => h (.inl e)⟩
theorem esc_code : ∀ c ∈ sgs, ∀ d ∈ sgs, escN 34 c <+: escN 34 d → c = d := by decide
theorem esc_cancel {c d : Nat} {x y : List Nat} (hc : c ∈ sgs) (hd : d ∈ sgs) (h : escN 34 c ++ x = escN 34 d ++ y) : c = d ∧ x = y := by
  have key : c = d := by
    rcases List.append_eq_append_iff.mp h with ⟨z, h1, _⟩ | ⟨z, h1, _⟩
    · exact esc_code c hc d hd ⟨z, h1.symm⟩
    · exact (esc_code d hd c hc ⟨z, h1.symm⟩).symm
  subst key
  exact ⟨rfl, List.append_cancel_left h⟩
theorem escL_inj : ∀ {u v x y : List Nat}, (∀ c ∈ u, c ∈ sgs) → (∀ c ∈ v, c ∈ sgs) → escL 34 u ++ 34 :: x = escL 34 v ++ 34 :: y → u = v ∧ x = y
  | [], [], x, y, _, _, h => by simp [escL] at h; exact ⟨rfl, h⟩
  | [], d :: v, x, y, _, _, h => by
    obtain ⟨a, l, e, ha⟩ := esc_head (c := d)
    rw [escL_cons, e] at h
    simp [escL] at h
    exact absurd h.1.symm ha
  | c :: u, [], x, y, _, _, h => by
    obtain ⟨a, l, e, ha⟩ := esc_head (c := c)
    rw [escL_cons, e] at h
    simp [escL] at h
    exact absurd h.1 ha
  | c :: u, d :: v, x, y, hu, hv, h => by
    rw [escL_cons, escL_cons, List.append_assoc, List.append_assoc] at h
    obtain ⟨q1, h'⟩ := esc_cancel (hu c (.head _)) (hv d (.head _)) h
    obtain ⟨q2, h''⟩ := escL_inj (fun z hz => hu z (.tail _ hz)) (fun z hz => hv z (.tail _ hz)) h'
    exact ⟨by rw [q1, q2], h''⟩
theorem digs_inj : ∀ {u v x y : List Nat}, (∀ c ∈ u, 48 ≤ c ∧ c ≤ 57) → (∀ c ∈ v, 48 ≤ c ∧ c ≤ 57) → Stp x → Stp y → u ++ x = v ++ y → u = v ∧ x = y
  | [], [], x, y, _, _, _, _, h => ⟨rfl, h⟩
  | [], d :: v, x, y, _, hv, hx, _, h => by
    have := hx d (v ++ y) (by simpa using h)
    have := hv d (.head _); omega
  | c :: u, [], x, y, hu, _, _, hy, h => by
    have := hy c (u ++ x) (by simpa using h.symm)
    have := hu c (.head _); omega
  | c :: u, d :: v, x, y, hu, hv, hx, hy, h => by
    simp only [List.cons_append, List.cons.injEq] at h
    obtain ⟨q1, h'⟩ := h
    obtain ⟨q2, h''⟩ := digs_inj (fun z hz => hu z (.tail _ hz)) (fun z hz => hv z (.tail _ hz)) hx hy h'
    exact ⟨by rw [q1, q2], h''⟩
theorem numL_inj {m n : Nat} (h : numL m = numL n) : m = n := by
  have h1 := KIN.val_back m
  have h2 := KIN.val_back n
  unfold numL at h
  rw [h] at h1
  omega
theorem intL_inj {i j : Int} {x y : List Nat} (hx : Stp x) (hy : Stp y) (h : intL i ++ x = intL j ++ y) : i = j ∧ x = y := by
  unfold intL at h
  have hd : ∀ m : Nat, ∀ {z y : List Nat}, 45 :: z = numL m ++ y → False := by
    intro m z y e
    obtain ⟨c, r, e2, h1, h2⟩ := numL_head m
    rw [e2] at e; simp at e; omega
  by_cases hi : i < 0 <;> by_cases hj : j < 0
  · rw [if_pos hi, if_pos hj] at h
    simp only [List.cons_append, List.cons.injEq, true_and] at h
    obtain ⟨h, hr⟩ := digs_inj (numL_dig _) (numL_dig _) hx hy h
    exact ⟨by have := numL_inj h; omega, hr⟩
  · rw [if_pos hi, if_neg hj] at h
    exact (hd _ h).elim
  · rw [if_neg hi, if_pos hj] at h
    exact (hd _ h.symm).elim
  · rw [if_neg hi, if_neg hj] at h
    obtain ⟨h, hr⟩ := digs_inj (numL_dig _) (numL_dig _) hx hy h
    exact ⟨by have := numL_inj h; omega, hr⟩
theorem intL_cons (i : Int) : ∃ c r, intL i = c :: r ∧ (c = 45 ∨ (48 ≤ c ∧ c ≤ 57)) := by
  unfold intL
  split
  · exact ⟨_, _, rfl, .inl rfl⟩
  · obtain ⟨c, r, e, h1, h2⟩ := numL_head i.natAbs
    exact ⟨c, r, e, .inr ⟨h1, h2⟩⟩
theorem show_inj : ∀ (k : Nat) (d e : Dat) (x y : List Nat), ValOk k d → ValOk k e → Stp x → Stp y → showD d ++ x = showD e ++ y → d = e ∧ x = y := by
  intro k
  induction k with
  | zero => ?_
  | succ k ih => ?_
  all_goals
    intro d e x y hd he hx hy h
    cases d with
    | none =>
      cases e with
      | none => simp [showD] at h; exact ⟨rfl, h⟩
      | int j => obtain ⟨c, r, e1, h1⟩ := intL_cons j; rw [showD, showD, e1] at h; simp at h; omega
      | str _ => simp [showD] at h
      | list _ => simp [showD] at h
      | _ => simp [ValOk] at he
    | int i =>
      obtain ⟨c, r, e1, h1⟩ := intL_cons i
      cases e with
      | none => rw [showD, showD, e1] at h; simp at h; omega
      | int j =>
        rw [showD, showD] at h
        obtain ⟨q1, h'⟩ := intL_inj hx hy h
        exact ⟨by rw [q1], h'⟩
      | str _ => rw [showD, showD, e1] at h; simp at h; omega
      | list _ => rw [showD, showD, e1] at h; simp at h; omega
      | _ => simp [ValOk] at he
    | str u =>
      cases e with
      | none => simp [showD] at h
      | int j => obtain ⟨c, r, e1, h1⟩ := intL_cons j; rw [showD, showD, e1] at h; simp at h; omega
      | str v =>
        rw [showD, showD] at h
        simp only [List.cons_append, List.append_assoc, List.nil_append, List.cons.injEq, true_and] at h
        obtain ⟨h, hr⟩ := escL_inj hd.2 he.2 h
        refine ⟨?_, hr⟩
        congr 1
        apply Str.ext'
        rw [← Array.toArray_toList (xs := u.cps), h, Array.toArray_toList]
      | list _ => simp [showD] at h
      | _ => simp [ValOk] at he
    | list ds => ?_
    | _ => simp [ValOk] at hd
  · simp [ValOk] at hd
  · cases e with
    | none => simp [showD] at h
    | int j => obtain ⟨c, r, e1, h1⟩ := intL_cons j; rw [showD, showD, e1] at h; simp at h; omega
    | str _ => simp [showD] at h
    | list es =>
      rw [showD, showD, showDs_map, showDs_map] at h
      simp only [List.cons_append, List.append_assoc, List.nil_append, List.cons.injEq, true_and] at h
      have more : ∀ (ds es : List Dat), (∀ d ∈ ds, ValOk k d) → (∀ d ∈ es, ValOk k d) → ((ds.map showD).map ([44, 32] ++ ·)).flatten ++ 93 :: x = ((es.map showD).map ([44, 32] ++ ·)).flatten ++ 93 :: y → ds = es ∧ x = y := by
        intro ds
        induction ds with
        | nil =>
          intro es _ _ h
          cases es with
          | nil => simp at h; exact ⟨rfl, h⟩
          | cons e es => simp at h
        | cons d ds ihd =>
          intro es h1 h2 h
          cases es with
          | nil => simp at h
          | cons e es =>
            simp only [List.map_cons, List.flatten_cons, List.append_assoc, List.cons_append, List.nil_append, List.cons.injEq, true_and] at h
            have st : ∀ (l : List Dat) (z : List Nat), Stp (((l.map showD).map ([44, 32] ++ ·)).flatten ++ 93 :: z) := by
              intro l z c t q
              cases l with
              | nil => simp at q; omega
              | cons a l => simp at q; omega
            obtain ⟨q1, h'⟩ := ih d e _ _ (h1 d (.head _)) (h2 e (.head _)) (st _ _) (st _ _) h
            obtain ⟨q2, h''⟩ := ihd es (fun z hz => h1 z (.tail _ hz)) (fun z hz => h2 z (.tail _ hz)) h'
            exact ⟨by rw [q1, q2], h''⟩
      have st : ∀ (l : List Dat) (z : List Nat), Stp (((l.map showD).map ([44, 32] ++ ·)).flatten ++ 93 :: z) := by
        intro l z c t q
        cases l with
        | nil => simp at q; omega
        | cons a l => simp at q; omega
      cases ds with
      | nil =>
        cases es with
        | nil => simp [joinL] at h; exact ⟨rfl, h⟩
        | cons e es =>
          obtain ⟨c, r, g1, g2, _⟩ := show_head (he.2 e (.head _))
          rw [List.map_cons, joinL_cons, g1] at h
          simp [joinL] at h
          omega
      | cons d ds =>
        cases es with
        | nil =>
          obtain ⟨c, r, g1, g2, _⟩ := show_head (hd.2 d (.head _))
          rw [List.map_cons, joinL_cons, g1] at h
          simp [joinL] at h
          omega
        | cons e es =>
          rw [List.map_cons, List.map_cons, joinL_cons, joinL_cons, List.append_assoc, List.append_assoc] at h
          obtain ⟨q1, h'⟩ := ih d e _ _ (hd.2 d (.head _)) (he.2 e (.head _)) (st _ _) (st _ _) h
          obtain ⟨q2, h''⟩ := more ds es (fun z hz => hd.2 z (.tail _ hz)) (fun z hz => he.2 z (.tail _ hz)) h'
          exact ⟨by rw [q1, q2], h''⟩
    | _ => simp [ValOk] at he
end Mine
end
/-! LawQ -/
section
open PySem PySem.W PySem.Calls PySem.NumText PyProof.Rows PyProof.V PySem.Spec
set_option Elab.async false
namespace Mine
theorem strOk_word {x : Str} (h : WordOk x) : PyData.strOk x = true := by
  unfold PyData.strOk
  rw [Array.all_eq_true]
  intro i hi
  have hm : x.cps[i] ∈ x.cps.toList := by rw [Array.mem_toList_iff]; exact Array.getElem_mem hi
  have := h.2 _ hm
  simp [sgs] at this
  rw [decide_eq_true_eq]; omega
theorem val_kqd : ∀ (k : Nat) (d : Dat), ValOk k d → kqdOk k d = true := by
  intro k
  induction k with
  | zero =>
    intro d h
    cases d with
    | none => rfl
    | int i => rfl
    | str x => exact strOk_word h
    | _ => simp [ValOk] at h
  | succ k ih =>
    intro d h
    cases d with
    | none => rfl
    | int i => rfl
    | str x => exact strOk_word h
    | list ds => simp only [kqdOk, List.all_eq_true]; exact fun d hd => ih d (h.2 d hd)
    | _ => simp [ValOk] at h
theorem val_shaped {k : Nat} {d : Dat} (hk : k ≤ 3) (h : ValOk k d) : SeqAt.shaped (kqdP d) = true := by
  have := kqd_lay k d (val_kqd k d h)
  unfold SeqAt.shaped
  rw [this.1, Bool.true_and]
  exact decide_eq_true (Nat.le_trans this.2 (Nat.le_trans hk (by decide)))
section
variable {prog : Program} {w : World} {A : Around} {E : Value → Shared → Prop} {s : Shared} {h₀ : Heap} {L : Addr} {news n1 n2 : List (Addr × Obj)} {v v' : Value} {d e : Dat} {k k' : Nat} {b : Bool} {Q : Value → Shared → Prop}
theorem eq_val (N : News h₀ L s.heap news) (D1 : DatIn n1 v d) (s1 : ∀ p ∈ n1, p ∈ news) (D2 : DatIn n2 v' e) (s2 : ∀ p ∈ n2, p ∈ news) (hk : k ≤ 3) (hk' : k' ≤ 3) (h1 : ValOk k d) (h2 : ValOk k' e) (hu : A.units + 64 < cLine) (hb : b = true ↔ d = e)
    (h : Q (.bool b) s) : wpAny (model prog w) A (compareOp .Eq v v') Q E s := by
  obtain ⟨as, ra⟩ := kqd_in N k (D1.mono s1) (val_kqd k d h1)
  obtain ⟨bs, rb⟩ := kqd_in N k' (D2.mono s2) (val_kqd k' e h2)
  refine eq_dataH ra rb (val_shaped hk h1) (val_shaped hk' h2) hu ?_
  have q := kqd_eqv k d e k' (val_kqd k d h1) (val_kqd k' e h2)
  have : PyData.eqv (kqdP d) (kqdP e) = b := by rw [Bool.eq_iff_iff, q, hb]
  rw [this]; exact h
theorem ne_val (N : News h₀ L s.heap news) (D1 : DatIn n1 v d) (s1 : ∀ p ∈ n1, p ∈ news) (D2 : DatIn n2 v' e) (s2 : ∀ p ∈ n2, p ∈ news) (hk : k ≤ 3) (hk' : k' ≤ 3) (h1 : ValOk k d) (h2 : ValOk k' e) (hu : A.units + 64 < cLine) (hb : b = true ↔ d = e)
    (h : Q (.bool (!b)) s) : wpAny (model prog w) A (compareOp .NotEq v v') Q E s := by
  obtain ⟨as, ra⟩ := kqd_in N k (D1.mono s1) (val_kqd k d h1)
  obtain ⟨bs, rb⟩ := kqd_in N k' (D2.mono s2) (val_kqd k' e h2)
  refine ne_dataH ra rb (val_shaped hk h1) (val_shaped hk' h2) hu ?_
  have q := kqd_eqv k d e k' (val_kqd k d h1) (val_kqd k' e h2)
  have : PyData.eqv (kqdP d) (kqdP e) = b := by rw [Bool.eq_iff_iff, q, hb]
  rw [this]; exact h
end
/-! how many backslashes stand at the end (of a list turned about: at its head) -/
def run : List Nat → Nat
  | [] => 0
  | c :: l => if c = 92 then run l + 1 else 0
theorem run_le : ∀ l, run l ≤ l.length
  | [] => Nat.le_refl _
  | c :: l => by rw [run]; have := run_le l; split <;> simp <;> omega
theorem run_append : ∀ a b : List Nat, run (a ++ b) = if run a = a.length then a.length + run b else run a
  | [], b => by simp [run]
  | c :: a, b => by
    have ih := run_append a b
    rw [List.cons_append, run, run, ih]
    by_cases hc : c = 92
    · rw [if_pos hc, if_pos hc, List.length_cons]
      by_cases ha : run a = a.length
      · rw [if_pos ha, if_pos (by omega)]; omega
      · rw [if_neg ha, if_neg (by omega)]
    · rw [if_neg hc, if_neg hc, if_neg (by simp)]
theorem run_eq : ∀ (l : List Nat) (a : Nat), a ≤ l.length → (∀ j, j < a → l[j]? = some 92) → (a = l.length ∨ l[a]? ≠ some 92) → run l = a
  | [], a, h, _, _ => by simp at h; subst h; rfl
  | c :: l, 0, _, _, h => by
    rw [run, if_neg]
    intro e
    rcases h with h | h
    · simp at h
    · exact h (by simp [e])
  | c :: l, a + 1, h, h1, h2 => by
    have hc : c = 92 := by simpa using h1 0 (by omega)
    rw [run, if_pos hc, run_eq l a (by simpa using h) (fun j hj => by simpa using h1 (j + 1) (by omega)) (by
      rcases h2 with h2 | h2
      · left; simpa using h2
      · right; simpa using h2)]
theorem esc_run {e : Nat} (he : Ends e) (c : Nat) : run (escN e c).reverse % 2 = 0 := by
  have hx : ∀ n, n < 16 → hexd n ≠ 92 := by decide
  unfold escN
  repeat' split
  · simp [run]
  · simp [run]
  · rename_i h
    by_cases hc : c = 92
    · subst hc; simp [run]
    · simp [run, hc]
  · rename_i h
    have := hx (c % 16) (by omega)
    simp [run, this]
  · rename_i h _
    have hc : c ≠ 92 := fun q => h (.inr q)
    simp [run, hc]
theorem esc_at {e : Nat} (he : Ends e) {c k : Nat} (h : (escN e c)[k]? = some e) : run ((escN e c).take k).reverse % 2 = 1 := by
  have hx : ∀ n, n < 16 → hexd n ≠ 34 ∧ hexd n ≠ 39 ∧ hexd n ≠ 47 ∧ hexd n ≠ 124 := by decide
  have hx' : ∀ n, n < 16 → hexd n ≠ e := fun n hn => by have := hx n hn; rcases he with h | h | h | h <;> omega
  have h92 := he.ne
  have e1 : e ≠ 110 ∧ e ≠ 116 ∧ e ≠ 120 := by rcases he with h | h | h | h <;> omega
  unfold escN at h ⊢
  split at h
  · rcases k with _ | _ | k <;> simp at h <;> omega
  · split at h
    · rcases k with _ | _ | k <;> simp at h <;> omega
    · split at h
      · rename_i h1 h2 h3
        rcases k with _ | _ | k
        · simp at h; omega
        · rw [if_neg h1, if_neg h2, if_pos h3]; simp [run]
        · simp at h
      · split at h
        · rename_i h1 h2 h3 h4
          have q1 := hx' (c / 16) (by omega)
          have q2 := hx' (c % 16) (by omega)
          rcases k with _ | _ | _ | _ | k <;> simp at h <;> omega
        · rename_i h3 h4
          rcases k with _ | k
          · simp at h; exact absurd (.inl h) h3
          · simp at h
theorem escL_at {e : Nat} (he : Ends e) : ∀ (w : List Nat) (k : Nat), (escL e w)[k]? = some e → run ((escL e w).take k).reverse % 2 = 1
  | [], k, h => by simp [escL] at h
  | c :: w, k, h => by
    rw [escL_cons] at h ⊢
    by_cases hk : k < (escN e c).length
    · rw [List.getElem?_append_left hk] at h
      rw [List.take_append_of_le_length (Nat.le_of_lt hk)]
      exact esc_at he h
    · rw [List.getElem?_append_right (by omega)] at h
      have ih := escL_at he w _ h
      rw [List.take_append, List.take_of_length_le (by omega), List.reverse_append, run_append]
      split
      · rename_i hr
        rw [hr] at ih
        have := esc_run he c
        omega
      · exact ih
theorem odd_run {e : Nat} (he : Ends e) (w : List Nat) {k a : Nat} (hk : (escL e w)[k]? = some e) (ha : a ≤ k) (h1 : ∀ j, j < a → (escL e w)[k - 1 - j]? = some 92) (h2 : a = k ∨ (escL e w)[k - a - 1]? ≠ some 92) : a % 2 = 1 := by
  have hl : k < (escL e w).length := by
    have := List.getElem?_eq_some_iff.mp hk; exact this.1
  have hlen : ((escL e w).take k).reverse.length = k := by rw [List.length_reverse, List.length_take]; omega
  have hr := escL_at he w k hk
  have get : ∀ j, j < k → ((escL e w).take k).reverse[j]? = (escL e w)[k - 1 - j]? := by
    intro j hj
    rw [List.getElem?_reverse (by rw [List.length_take]; omega), List.length_take, List.getElem?_take]
    rw [show min k (escL e w).length = k by omega, if_pos (by omega)]
  rw [run_eq _ a (by omega) (fun j hj => by rw [get j (by omega)]; exact h1 j hj) (by
    rw [hlen]
    by_cases hak : a = k
    · exact .inl hak
    · rcases h2 with h2 | h2
      · exact .inl h2
      · right; rw [get a (by omega), show k - 1 - a = k - a - 1 by omega]; exact h2)] at hr
  exact hr
theorem at_mk {l : List Nat} {k : Nat} (h : k ≤ l.length) : At (mk l) (k : Int) (l.drop k) := by
  refine ⟨by omega, ?_, ?_⟩
  · rw [mk_len]; omega
  · simp [mk]
theorem at_item {l : List Nat} {k c : Nat} (h : l[k]? = some c) : At (mk l) (k : Int) (c :: l.drop (k + 1)) := by
  obtain ⟨hk, e⟩ := List.getElem?_eq_some_iff.mp h
  have := at_mk (l := l) (k := k) (by omega)
  rwa [List.drop_eq_getElem_cons hk, e] at this
end Mine
namespace Mine
theorem end_item {prog : Program} {w : World} {A : Around} {E : Value → Shared → Prop} {s : Shared} {h₀ : Heap} {L l : Addr} {news : List (Addr × Obj)} {its : Array Value} {n : Nat} {t1 t2 t3 t4 : Tok} {value slice : Expr} {d : Int} {u : Tok} {Q : Value → Shared → Prop}
    (N : News h₀ L s.heap news) (hm : (l, listOf its n) ∈ news) (hi : its = #[.str (Str.ofString "\"") t1, .str (Str.ofString "'") t2, .str (Str.ofString "/") t3, .str (Str.ofString "|") t4]) (h0 : 0 ≤ d) (h1 : d < 4) (h : ∀ e t, Ends e → Q (.str ⟨#[e]⟩ t) s)
    (hs : subscripted slice false (.ref l) (.int d u) = operate [.ref l, .int d u] (getItem (.ref l) (.int d u)) := by with_unfolding_all rfl) :
    wpAny (model prog w) A (subscriptTail value slice (.ref l) (.int d u)) Q E s := by
  subst hi
  have hl : s.heap.IsList l #[.str (Str.ofString "\"") t1, .str (Str.ofString "'") t2, .str (Str.ofString "/") t3, .str (Str.ofString "|") t4] := ⟨_, N.get hm, rfl, n, rfl⟩
  have go : ∀ (e : Nat) (t : Tok) (x : Str), x = ⟨#[e]⟩ → Ends e → (#[.str (Str.ofString "\"") t1, .str (Str.ofString "'") t2, .str (Str.ofString "/") t3, .str (Str.ofString "|") t4] : Array Value)[d.toNat]? = some (.str x t) → wpAny (model prog w) A (subscriptTail value slice (.ref l) (.int d u)) Q E s := by
    rintro e t x rfl he hx
    exact tail_any hl.typeIs slot_list_getitem.lookup (wpAny_getItem_list hl h0 (by omega) hx (h e t he)) hs
  have : d = 0 ∨ d = 1 ∨ d = 2 ∨ d = 3 := by omega
  rcases this with rfl | rfl | rfl | rfl
  · exact go 34 t1 _ (by decide +kernel) (.inl rfl) rfl
  · exact go 39 t2 _ (by decide +kernel) (.inr (.inl rfl)) rfl
  · exact go 47 t3 _ (by decide +kernel) (.inr (.inr (.inl rfl))) rfl
  · exact go 124 t4 _ (by decide +kernel) (.inr (.inr (.inr rfl))) rfl
theorem mk_ext {a b : List Nat} (h : mk a = mk b) : a = b := by
  have := congrArg (fun z : Str => z.cps.toList) h
  simpa [mk] using this
end Mine
end
section
open PySem PySem.W PySem.Calls PyProof.Rows Mine
set_option maxRecDepth 100000
local macro_rules | `(tactic| k_all) => `(tactic| first | assumption | exact allLt_ne (by assumption) | fail)
local macro_rules | `(tactic| k_room) => `(tactic| ktr_room)
local macro_rules | `(tactic| walk_at "mine_enter") => `(tactic| (refine' code_def ?k1 ?k2 ?k3 ?k4 ?k5 ?kA ?kF ?kK ?k6 ?k7 ?k8 ?k9 ?kB ?_ ?c2 ?c3 ?c4 ?c5; (case kA => exact rfl); (case kF => exact rfl); (case kK => assumption); (case k1 => k_asm); (case k2 => k_asm); (case k3 => k_asm); (case k4 => k_asm); (case k5 => k_asm); (case k6 => k_is); (case k7 => k_is); (case k8 => ktr_room); (case k9 => first | exact BindsTo.of_eq rfl | exact binds_K (by k_in) rfl (by k_is) rfl rfl rfl); (case c5 => decide); (case kB => exact locs rfl); (case c2 => exact rfl); (case c3 => exact rfl); (case c4 => exact rfl); k_whole; intro g' L' h' FG' F' N' B' X' T'; (try dsimp only); (try k_fold)))
local macro_rules | `(tactic| walk_at "subscriptTail Name Attribute str int") => `(tactic| (refine item_str (fitsSsize_of (N := 9223372036854775808) (by omega) (by omega) (Int.le_refl _)) (by omega) (by omega) ?_; intro _))
local macro_rules | `(tactic| walk_at "mine_at") => `(tactic| assumption)
local macro_rules | `(tactic| walk_at "subscriptTail Name Attribute str int") => `(tactic| (k_dflt refine' item_at (by assumption) (by assumption) ?_))
local macro_rules | `(tactic| walk_at "subscriptTail Name Name str int") => `(tactic| (k_dflt refine' item_at (by assumption) (by assumption) ?_))
local macro_rules | `(tactic| walk_at "exec While BoolOp cons nil") => `(tactic| refine Halt.mk ?_)
local macro_rules | `(tactic| walk_at "exec While UnaryOp cons nil") => `(tactic| refine Halt.mk ?_)
local macro_rules | `(tactic| walk_at "mine_enterC") => `(tactic| (refine' code_defC ?k1 ?k2 ?k3 ?k4 ?k5 ?kA ?kF ?kK ?k6 ?k7 ?k8 ?k9 ?kB ?kD ?_ ?c2 ?c3 ?c4; (case kA => exact rfl); (case kF => exact rfl); (case kK => assumption); (case k1 => k_asm); (case k2 => k_asm); (case k3 => k_asm); (case k4 => k_asm); (case k5 => k_asm); (case k6 => k_is); (case k7 => k_is); (case k8 => ktr_room); (case k9 => first | exact BindsTo.of_eq rfl | exact binds_K (by k_in) rfl (by k_is) rfl rfl rfl); (case kB => exact rfl); (case kD => decide +kernel); (case c2 => exact rfl); (case c3 => exact rfl); (case c4 => exact rfl); k_whole; intro g' L' h' tk' cells' FG' F' N' Y' B' X' T' l1; (try k_lt l1); k_cells Y'; (try simp only [List.cons_append, List.nil_append] at N'); (try dsimp only); (try k_fold)))
/-! C1 -/
section
open PySem PySem.W PySem.Calls PyProof.Rows
set_option Elab.async false
set_option maxRecDepth 100000
namespace Mine

def hdS : List Nat → Str
  | [] => Str.ofString ""
  | c :: _ => ⟨#[c]⟩
theorem sliceEq {tx : Str} {k : Int} {r : List Nat} (h : At tx k r) (wd : Str) : (Txt.slice tx (some k) (some (k + (wd.length : Int))) == wd) = decide (wd.cps.toList <+: r) := by
  rw [h.slice (by omega), show (k + (wd.length : Int) - k).toNat = wd.cps.toList.length by simp [Str.length]; omega]
  rw [Bool.eq_iff_iff, beq_iff_eq, decide_eq_true_eq, List.prefix_iff_eq_take]
  constructor
  · intro e; have := congrArg (fun z : Str => z.cps.toList) e; simpa using this.symm
  · intro e
    apply Str.ext'
    show (List.take _ r).toArray = wd.cps
    rw [← e, Array.toArray_toList]

set_option maxHeartbeats 8000000 in
theorem done_core {w : World} {x dx : Addr} {tx : Str} {tt t1 t2 : Tok} {h1 h2 : Int} {a0 : Int} {ta : Tok} {nw : List (Addr × Obj)} {r : List Nat} (H : At tx a0 r) (hlen : tx.length ≤ 1000) :
    Tell w 44 [.ref x] 3 30 ((x, instObj 147 dx) :: (dx, cd h1 h2 t1 t2 tt tx a0 ta) :: nw) (fun v nw' => nw' = (x, instObj 147 dx) :: (dx, cd h1 h2 t1 t2 tt tx a0 ta) :: nw ∧ v = .bool (decide (r = []))) := by
  w_top off
  unfold Tell
  k_fill
  intro p loose mean mg mb dp un gd cn cs a ccd cl outer A₀ base h₀ L m s Q E B F X N T hk hdp hun hret
  refine wpAny_call ?_
  k_dflt walk_at "mine_enter"
  k_steps
  have e : decide ((tx.length : Int) ≤ a0) = decide (r = []) := by
    cases r with
    | nil => simp [H.nil]
    | cons c r => have := H.lt; simp; omega
  rw [e]
  exact hret _ _ _ _ (by k_asm) (by k_asm) ⟨rfl, rfl⟩

set_option maxHeartbeats 8000000 in
theorem peek_core {w : World} {x dx : Addr} {tx : Str} {tt t1 t2 : Tok} {h1 h2 : Int} {a0 : Int} {ta : Tok} {nw : List (Addr × Obj)} {r : List Nat} (H : At tx a0 r) (hlen : tx.length ≤ 1000) :
    Tell w 52 [.ref x] 3 30 ((x, instObj 147 dx) :: (dx, cd h1 h2 t1 t2 tt tx a0 ta) :: nw) (fun v nw' => nw' = (x, instObj 147 dx) :: (dx, cd h1 h2 t1 t2 tt tx a0 ta) :: nw ∧ ∃ t, v = .str (hdS r) t) := by
  w_top off
  unfold Tell
  k_fill
  intro p loose mean mg mb dp un gd cn cs a ccd cl outer A₀ base h₀ L m s Q E B F X N T hk hdp hun hret
  have h0 := H.ge
  refine wpAny_call ?_
  k_dflt walk_at "mine_enter"
  k_steps
  · cases r with
    | nil => have := H.nil; omega
    | cons c r =>
      rw [Int.add_zero, H.item]
      exact hret _ _ _ _ (by k_asm) (by k_asm) ⟨rfl, _, rfl⟩
  · cases r with
    | nil => exact hret _ _ _ _ (by k_asm) (by k_asm) ⟨rfl, _, rfl⟩
    | cons c r => have := H.lt; omega

set_option maxHeartbeats 8000000 in
theorem peek1_core {w : World} {x dx : Addr} {tx : Str} {tt t1 t2 : Tok} {h1 h2 : Int} {a0 : Int} {ta : Tok} {nw : List (Addr × Obj)} {c : Nat} {r : List Nat} {t9 : Tok} (H : At tx a0 (c :: r)) (hlen : tx.length ≤ 1000) :
    Tell w 52 [.ref x, .int 1 t9] 3 30 ((x, instObj 147 dx) :: (dx, cd h1 h2 t1 t2 tt tx a0 ta) :: nw) (fun v nw' => nw' = (x, instObj 147 dx) :: (dx, cd h1 h2 t1 t2 tt tx a0 ta) :: nw ∧ ∃ t, v = .str (hdS r) t) := by
  w_top off
  unfold Tell
  k_fill
  intro p loose mean mg mb dp un gd cn cs a ccd cl outer A₀ base h₀ L m s Q E B F X N T hk hdp hun hret
  have h0 := H.ge
  have H' := H.next
  refine wpAny_call ?_
  k_dflt walk_at "mine_enter"
  k_steps
  · cases r with
    | nil => have := H'.nil; omega
    | cons c r =>
      rw [H'.item]
      exact hret _ _ _ _ (by k_asm) (by k_asm) ⟨rfl, _, rfl⟩
  · cases r with
    | nil => exact hret _ _ _ _ (by k_asm) (by k_asm) ⟨rfl, _, rfl⟩
    | cons c r => have := H'.lt; omega

set_option maxHeartbeats 8000000 in
theorem starts_core {w : World} {x dx : Addr} {tx : Str} {tt t1 t2 : Tok} {h1 h2 : Int} {a0 : Int} {ta : Tok} {nw : List (Addr × Obj)} {wd : Str} {t9 : Tok} {r : List Nat} (H : At tx a0 r) (hlen : tx.length ≤ 1000) (hwd : wd.length ≤ 10) :
    Tell w 59 [.ref x, .str wd t9] 3 30 ((x, instObj 147 dx) :: (dx, cd h1 h2 t1 t2 tt tx a0 ta) :: nw) (fun v nw' => nw' = (x, instObj 147 dx) :: (dx, cd h1 h2 t1 t2 tt tx a0 ta) :: nw ∧ v = .bool (decide (wd.cps.toList <+: r))) := by
  w_top off
  unfold Tell
  k_fill
  intro p loose mean mg mb dp un gd cn cs a ccd cl outer A₀ base h₀ L m s Q E B F X N T hk hdp hun hret
  have h0 := H.ge
  refine wpAny_call ?_
  k_dflt walk_at "mine_enter"
  k_steps
  rw [sliceEq H]
  exact hret _ _ _ _ (by k_asm) (by k_asm) ⟨rfl, rfl⟩

theorem done_tell {w : World} {x dx : Addr} {tx : Str} {tt t1 t2 : Tok} {h1 h2 : Int} {a0 : Int} {ta : Tok} {nw : List (Addr × Obj)} {r : List Nat} (hx : (x, instObj 147 dx) ∈ nw) (hd : (dx, cd h1 h2 t1 t2 tt tx a0 ta) ∈ nw) (H : At tx a0 r) (hlen : tx.length ≤ 1000) :
    Tell w 44 [.ref x] 3 30 (nw) (fun v nw' => nw' = nw ∧ v = .bool (decide (r = []))) := (read_tell (pre := [(x, instObj 147 dx), (dx, cd h1 h2 t1 t2 tt tx a0 ta)]) (List.forall_mem_cons.mpr ⟨hx, List.forall_mem_cons.mpr ⟨hd, List.forall_mem_nil _⟩⟩) (done_core H hlen))
theorem peek_tell {w : World} {x dx : Addr} {tx : Str} {tt t1 t2 : Tok} {h1 h2 : Int} {a0 : Int} {ta : Tok} {nw : List (Addr × Obj)} {r : List Nat} (hx : (x, instObj 147 dx) ∈ nw) (hd : (dx, cd h1 h2 t1 t2 tt tx a0 ta) ∈ nw) (H : At tx a0 r) (hlen : tx.length ≤ 1000) :
    Tell w 52 [.ref x] 3 30 (nw) (fun v nw' => nw' = nw ∧ ∃ t, v = .str (hdS r) t) := (read_tell (pre := [(x, instObj 147 dx), (dx, cd h1 h2 t1 t2 tt tx a0 ta)]) (List.forall_mem_cons.mpr ⟨hx, List.forall_mem_cons.mpr ⟨hd, List.forall_mem_nil _⟩⟩) (peek_core H hlen))
theorem peek1_tell {w : World} {x dx : Addr} {tx : Str} {tt t1 t2 : Tok} {h1 h2 : Int} {a0 : Int} {ta : Tok} {nw : List (Addr × Obj)} {c : Nat} {r : List Nat} {t9 : Tok} (hx : (x, instObj 147 dx) ∈ nw) (hd : (dx, cd h1 h2 t1 t2 tt tx a0 ta) ∈ nw) (H : At tx a0 (c :: r)) (hlen : tx.length ≤ 1000) :
    Tell w 52 [.ref x, .int 1 t9] 3 30 (nw) (fun v nw' => nw' = nw ∧ ∃ t, v = .str (hdS r) t) := (read_tell (pre := [(x, instObj 147 dx), (dx, cd h1 h2 t1 t2 tt tx a0 ta)]) (List.forall_mem_cons.mpr ⟨hx, List.forall_mem_cons.mpr ⟨hd, List.forall_mem_nil _⟩⟩) (peek1_core H hlen))
theorem starts_tell {w : World} {x dx : Addr} {tx : Str} {tt t1 t2 : Tok} {h1 h2 : Int} {a0 : Int} {ta : Tok} {nw : List (Addr × Obj)} {wd : Str} {t9 : Tok} {r : List Nat} (hx : (x, instObj 147 dx) ∈ nw) (hd : (dx, cd h1 h2 t1 t2 tt tx a0 ta) ∈ nw) (H : At tx a0 r) (hlen : tx.length ≤ 1000) (hwd : wd.length ≤ 10) :
    Tell w 59 [.ref x, .str wd t9] 3 30 (nw) (fun v nw' => nw' = nw ∧ v = .bool (decide (wd.cps.toList <+: r))) := (read_tell (pre := [(x, instObj 147 dx), (dx, cd h1 h2 t1 t2 tt tx a0 ta)]) (List.forall_mem_cons.mpr ⟨hx, List.forall_mem_cons.mpr ⟨hd, List.forall_mem_nil _⟩⟩) (starts_core H hlen hwd))
end Mine
end
/-! C2 -/
section
open PySem PySem.W PySem.Calls PyProof.Rows
set_option Elab.async false
set_option maxRecDepth 100000
namespace Mine
local macro_rules | `(tactic| walk_at "call ref") => `(tactic| (k_here; (with_reducible show wpAny _ _ (call (Value.ref 44) _) _ _ _); k_dflt (refine' Tell.use (done_tell ?hx ?hd ?H ?hl ) ?B ?F ?X ?N ?T ?K ?D ?U ?_; (case B => k_asm); (case F => k_asm); (case X => k_asm); (case N => k_asm); (case T => k_asm); (case K => first | exact rfl | assumption); (case hx => k_mem); (case hd => k_mem); (case H => (first | assumption | walk_at "mine_at")); (case hl => assumption); (case D => ktr_room); (case U => ktr_units)); intro r9 h9 tk9 n9 F9 N9 P9; obtain ⟨e1, e2⟩ := P9; subst e1; (first | subst e2 | (obtain ⟨t9, e2⟩ := e2; subst e2)); (try k_sweep); (try simp only [List.cons_append, List.nil_append, hdS, reduceCtorEq, decide_true, decide_false, eq_self]); (try dsimp only)))
local macro_rules | `(tactic| walk_at "call ref") => `(tactic| (k_here; (with_reducible show wpAny _ _ (call (Value.ref 59) _) _ _ _); k_dflt (refine' Tell.use (starts_tell ?hx ?hd ?H ?hl ?hw) ?B ?F ?X ?N ?T ?K ?D ?U ?_; (case B => k_asm); (case F => k_asm); (case X => k_asm); (case N => k_asm); (case T => k_asm); (case K => first | exact rfl | assumption); (case hx => k_mem); (case hd => k_mem); (case H => (first | assumption | walk_at "mine_at")); (case hl => assumption); (case hw => first | assumption | decide); (case D => ktr_room); (case U => ktr_units)); intro r9 h9 tk9 n9 F9 N9 P9; obtain ⟨e1, e2⟩ := P9; subst e1; (first | subst e2 | (obtain ⟨t9, e2⟩ := e2; subst e2)); (try k_sweep); (try simp only [List.cons_append, List.nil_append, hdS, reduceCtorEq, decide_true, decide_false, eq_self]); (try dsimp only)))

set_option maxHeartbeats 8000000 in
theorem take_core {w : World} {x dx : Addr} {tx : Str} {tt t1 t2 : Tok} {h1 h2 : Int} {a0 : Int} {ta : Tok} {nw : List (Addr × Obj)} (hn : ∀ p ∈ nw, p.1 ≠ dx) (hxd : @Ne Nat x dx) {c : Nat} {r : List Nat} (H : At tx a0 (c :: r)) (hlen : tx.length ≤ 1000) :
    Tell w 66 [.ref x] 6 60 ((x, instObj 147 dx) :: (dx, cd h1 h2 t1 t2 tt tx a0 ta) :: nw) (fun v nw' => ∃ o', nw' = (x, instObj 147 dx) :: (dx, o') :: nw ∧ ∃ t t', v = .str ⟨#[c]⟩ t ∧ o' = cd h1 h2 t1 t2 tt tx (a0 + 1) t' ∧ At tx (a0 + 1) (r)) := by
  w_top off
  unfold Tell
  k_fill
  intro p loose mean mg mb dp un gd cn cs a ccd cl outer A₀ base h₀ L m s Q E B F X N T hk hdp hun hret
  have h0 := H.ge
  have h1 := H.lt
  refine wpAny_call ?_
  k_dflt walk_at "mine_enter"
  k_steps
  exact hret _ _ _ _ (by k_asm) (by k_asm) ⟨_, rfl, _, _, rfl, rfl, H.next⟩

set_option maxHeartbeats 8000000 in
theorem skip_core {w : World} {x dx : Addr} {tx : Str} {tt t1 t2 : Tok} {h1 h2 : Int} {a0 : Int} {ta : Tok} {nw : List (Addr × Obj)} (hn : ∀ p ∈ nw, p.1 ≠ dx) (hxd : @Ne Nat x dx) {wd : Str} {t9 : Tok} {r : List Nat} (H : At tx a0 (wd.cps.toList ++ r)) (hlen : tx.length ≤ 1000) (hwd : wd.length ≤ 10) :
    Tell w 73 [.ref x, .str wd t9] 6 60 ((x, instObj 147 dx) :: (dx, cd h1 h2 t1 t2 tt tx a0 ta) :: nw) (fun v nw' => ∃ o', nw' = (x, instObj 147 dx) :: (dx, o') :: nw ∧ ∃ (t t' : Tok), v = .bool true ∧ o' = cd h1 h2 t1 t2 tt tx (a0 + (wd.length : Int)) t' ∧ At tx (a0 + (wd.length : Int)) (r)) := by
  w_top off
  unfold Tell
  k_fill
  intro p loose mean mg mb dp un gd cn cs a ccd cl outer A₀ base h₀ L m s Q E B F X N T hk hdp hun hret
  have h0 := H.ge
  have h1 := H.le
  have hp : decide (wd.cps.toList <+: wd.cps.toList ++ r) = true := decide_eq_true (List.prefix_append _ _)
  refine wpAny_call ?_
  k_dflt walk_at "mine_enter"
  k_steps
  · exact hret _ _ _ _ (by k_asm) (by k_asm) ⟨_, rfl, 0, _, rfl, rfl, by simpa [Str.length] using H.skip⟩
  all_goals simp_all

set_option maxHeartbeats 8000000 in
theorem skipno_core {w : World} {x dx : Addr} {tx : Str} {tt t1 t2 : Tok} {h1 h2 : Int} {a0 : Int} {ta : Tok} {nw : List (Addr × Obj)} {wd : Str} {t9 : Tok} {r : List Nat} (H : At tx a0 r) (hno : ¬ wd.cps.toList <+: r) (hlen : tx.length ≤ 1000) (hwd : wd.length ≤ 10) :
    Tell w 73 [.ref x, .str wd t9] 6 60 ((x, instObj 147 dx) :: (dx, cd h1 h2 t1 t2 tt tx a0 ta) :: nw) (fun v nw' => nw' = (x, instObj 147 dx) :: (dx, cd h1 h2 t1 t2 tt tx a0 ta) :: nw ∧ v = .bool false) := by
  w_top off
  unfold Tell
  k_fill
  intro p loose mean mg mb dp un gd cn cs a ccd cl outer A₀ base h₀ L m s Q E B F X N T hk hdp hun hret
  have h0 := H.ge
  have h1 := H.le
  refine wpAny_call ?_
  k_dflt walk_at "mine_enter"
  k_steps
  exact hret _ _ _ _ (by k_asm) (by k_asm) ⟨rfl, rfl⟩
end Mine
end
/-! C3 -/
section
open PySem PySem.W PySem.Calls PyProof.Rows
set_option Elab.async false
set_option maxRecDepth 100000
namespace Mine

set_option maxHeartbeats 8000000 in
theorem take_while_core {w : World} {x dx : Addr} {tx : Str} {tt t1 t2 : Tok} {h1 h2 : Int} {a0 : Int} {ta : Tok} {nw : List (Addr × Obj)} (hn : ∀ p ∈ nw, p.1 ≠ dx) (hxd : @Ne Nat x dx) {sg : Str} {t9 : Tok} {u r : List Nat} (H : At tx a0 (u ++ r)) (hlen : tx.length ≤ 1000) (hs : sg.length ≤ 100) (hu : ∀ c ∈ u, c ∈ sg.cps.toList) (hr : ∀ c l, r = c :: l → c ∉ sg.cps.toList) :
    Tell w 80 [.ref x, .str sg t9] 6 60 ((x, instObj 147 dx) :: (dx, cd h1 h2 t1 t2 tt tx a0 ta) :: nw) (fun v nw' => ∃ o', nw' = (x, instObj 147 dx) :: (dx, o') :: nw ∧ ∃ t t', v = .str ⟨u.toArray⟩ t ∧ o' = cd h1 h2 t1 t2 tt tx (a0 + (u.length : Int)) t' ∧ At tx (a0 + (u.length : Int)) (r)) := by
  w_top off
  unfold Tell
  k_fill
  intro p loose mean mg mb dp un gd cn cs a ccd cl outer A₀ base h₀ L m s Q E B F X N T hk hdp hun hret
  have h0 := H.ge
  refine wpAny_call ?_
  k_dflt walk_at "mine_enter"
  k_steps
  unfold Halt
  k_dflt refine' while_map (σ := List Nat × List Nat × Tok) (fun c => (x, instObj 147 dx) :: (dx, cd h1 h2 t1 t2 tt tx (a0 + (c.1.length : Int)) c.2.2) :: nw) (fun _ => _) (fun c => c.2.1.length) (fun c => u = c.1 ++ c.2.1 ∧ At tx (a0 + (c.1.length : Int)) (c.2.1 ++ r)) ([], u, ta) (by k_asm) (by simpa using (by k_asm)) ⟨rfl, by simpa using H⟩ ?turn
  rintro ⟨u1, u2, tq⟩ h₁ tk₁ F₁ N₁ ⟨e, H₁⟩
  dsimp only at e F₁ N₁ H₁
  subst e
  k_sweep
  have hg := H₁.ge
  cases u2 with
  | cons c u2 =>
    rw [List.cons_append] at H₁
    have hl := H₁.lt
    have hc := found_yes (hu c (by simp))
    k_steps
    k_dflt refine' WNext.intro (u1 ++ [c], u2, _) ?f ?n ?l ?i
    (case f => k_asm)
    (case n =>
      simp only [List.length_append, List.length_cons, List.length_nil, Int.natCast_add, Nat.zero_add, Int.natCast_one, ← Int.add_assoc]
      k_asm)
    (case l => simp)
    (case i =>
      refine ⟨by simp, ?_⟩
      simp only [List.length_append, List.length_cons, List.length_nil, Int.natCast_add, Nat.zero_add, Int.natCast_one, ← Int.add_assoc]
      exact H₁.next)
  | nil =>
    rw [List.nil_append] at H₁
    simp only [List.append_nil] at hret H
    have hfin : Txt.slice tx (some a0) (some (a0 + (u1.length : Int))) = ⟨u1.toArray⟩ := by
      rw [H.slice (by omega), show (a0 + (u1.length : Int) - a0).toNat = u1.length by omega, List.take_left]
    cases r with
    | nil =>
      have hl := H₁.nil
      k_steps
      rw [hfin]
      exact hret _ _ _ _ (by k_asm) (by k_asm) ⟨_, rfl, _, _, rfl, rfl, H₁⟩
    | cons c r =>
      have hl := H₁.lt
      have hc := found_no (hr c r rfl)
      k_steps
      rw [hfin]
      exact hret _ _ _ _ (by k_asm) (by k_asm) ⟨_, rfl, _, _, rfl, rfl, H₁⟩
end Mine
end
/-! C4 -/
section
open PySem PySem.W PySem.Calls PyProof.Rows
set_option Elab.async false
set_option maxRecDepth 100000
namespace Mine
local macro_rules | `(tactic| walk_at "call ref") => `(tactic| (k_here; (with_reducible show wpAny _ _ (call (Value.ref 44) _) _ _ _); k_dflt (refine' Tell.use (done_tell ?hx ?hd ?H ?hl ) ?B ?F ?X ?N ?T ?K ?D ?U ?_; (case B => k_asm); (case F => k_asm); (case X => k_asm); (case N => k_asm); (case T => k_asm); (case K => first | exact rfl | assumption); (case hx => k_mem); (case hd => k_mem); (case H => (first | assumption | walk_at "mine_at")); (case hl => assumption); (case D => ktr_room); (case U => ktr_units)); intro r9 h9 tk9 n9 F9 N9 P9; obtain ⟨e1, e2⟩ := P9; subst e1; (first | subst e2 | (obtain ⟨t9, e2⟩ := e2; subst e2)); (try k_sweep); (try simp only [List.cons_append, List.nil_append, hdS, reduceCtorEq, decide_true, decide_false, eq_self]); (try dsimp only)))
local macro_rules | `(tactic| walk_at "call ref") => `(tactic| (k_here; (with_reducible show wpAny _ _ (call (Value.ref 52) _) _ _ _); k_dflt (refine' Tell.use (peek_tell ?hx ?hd ?H ?hl ) ?B ?F ?X ?N ?T ?K ?D ?U ?_; (case B => k_asm); (case F => k_asm); (case X => k_asm); (case N => k_asm); (case T => k_asm); (case K => first | exact rfl | assumption); (case hx => k_mem); (case hd => k_mem); (case H => (first | assumption | walk_at "mine_at")); (case hl => assumption); (case D => ktr_room); (case U => ktr_units)); intro r9 h9 tk9 n9 F9 N9 P9; obtain ⟨e1, e2⟩ := P9; subst e1; (first | subst e2 | (obtain ⟨t9, e2⟩ := e2; subst e2)); (try k_sweep); (try simp only [List.cons_append, List.nil_append, hdS, reduceCtorEq, decide_true, decide_false, eq_self]); (try dsimp only)))
local macro_rules | `(tactic| walk_at "call ref") => `(tactic| (k_here; (with_reducible show wpAny _ _ (call (Value.ref 80) _) _ _ _); k_dflt (refine' Tell.use (upd_tell ?hx ?hU cd_ne (fun rest hn hxd => take_while_core hn hxd ?H ?hl ?hs ?hu ?hr)) ?B ?F ?X ?N ?T ?K ?D ?U ?_; (case B => k_asm); (case F => k_asm); (case X => k_asm); (case N => k_asm); (case T => k_asm); (case K => first | exact rfl | assumption); (case hx => k_mem); (case hU => k_updF); (case H => assumption); (case hl => assumption); (case hs => decide); (case hu => (first | assumption | decide)); (case hr => assumption); (case D => ktr_room); (case U => ktr_units)); intro r9 h9 tk9 n9 F9 N9 P9; obtain ⟨o9, e1, P9⟩ := P9; obtain ⟨t9, t9', e2, e3, H9⟩ := P9; subst e1 e2 e3; (try k_sweep); (try dsimp only at N9); (try dsimp only)))

set_option maxHeartbeats 8000000 in
theorem name_core {w : World} {x dx : Addr} {tx : Str} {tt t1 t2 : Tok} {h1 h2 : Int} {a0 : Int} {ta : Tok} {nw : List (Addr × Obj)} (hn : ∀ p ∈ nw, p.1 ≠ dx) (hxd : @Ne Nat x dx) {r : List Nat} (H : At tx a0 ([110, 111, 110, 101] ++ r)) (hlen : tx.length ≤ 1000) (hr : ∀ c l, r = c :: l → c ∉ ([97, 98, 99, 100, 101, 102, 103, 104, 105, 106, 107, 108, 109, 110, 111, 112, 113, 114, 115, 116, 117, 118, 119, 120, 121, 122, 65, 66, 67, 68, 69, 70, 71, 72, 73, 74, 75, 76, 77, 78, 79, 80, 81, 82, 83, 84, 85, 86, 87, 88, 89, 90, 95, 48, 49, 50, 51, 52, 53, 54, 55, 56, 57] : List Nat)) :
    Tell w 102 [.ref x] 9 90 ((x, instObj 147 dx) :: (dx, cd h1 h2 t1 t2 tt tx a0 ta) :: nw) (fun v nw' => ∃ o', nw' = (x, instObj 147 dx) :: (dx, o') :: nw ∧ ∃ t t', v = .str ⟨#[110, 111, 110, 101]⟩ t ∧ o' = cd h1 h2 t1 t2 tt tx (a0 + 4) t' ∧ At tx (a0 + 4) (r)) := by
  w_top off
  unfold Tell
  k_fill
  intro p loose mean mg mb dp un gd cn cs a ccd cl outer A₀ base h₀ L m s Q E B F X N T hk hdp hun hret
  have h0 := H.ge
  refine wpAny_call ?_
  k_dflt walk_at "mine_enter"
  k_steps
  all_goals first
    | exact hret _ _ _ _ (by k_asm) (by k_asm) ⟨_, rfl, _, _, rfl, rfl, by k_asm⟩
    | (rename (List.isEmpty _ = _) => q; exact absurd q (by decide +kernel))

set_option maxHeartbeats 8000000 in
theorem number_core {w : World} {x dx : Addr} {tx : Str} {tt t1 t2 : Tok} {h1 h2 : Int} {a0 : Int} {ta : Tok} {nw : List (Addr × Obj)} (hn : ∀ p ∈ nw, p.1 ≠ dx) (hxd : @Ne Nat x dx) {u r : List Nat} {n : Int} (H : At tx a0 (u ++ r)) (hlen : tx.length ≤ 1000) (hu : ∀ c ∈ u, c ∈ ([48, 49, 50, 51, 52, 53, 54, 55, 56, 57] : List Nat)) (hr : ∀ c l, r = c :: l → c ∉ ([48, 49, 50, 51, 52, 53, 54, 55, 56, 57] : List Nat)) (hI : PySem.intText? ⟨u.toArray⟩ = some n) (hne : ((⟨u.toArray⟩ : Str) == Str.ofString "") = false) (hl2 : (⟨u.toArray⟩ : Str).length ≤ 20) :
    Tell w 109 [.ref x] 9 90 ((x, instObj 147 dx) :: (dx, cd h1 h2 t1 t2 tt tx a0 ta) :: nw) (fun v nw' => ∃ o', nw' = (x, instObj 147 dx) :: (dx, o') :: nw ∧ ∃ t t', v = .int n t ∧ o' = cd h1 h2 t1 t2 tt tx (a0 + (u.length : Int)) t' ∧ At tx (a0 + (u.length : Int)) (r)) := by
  w_top off
  unfold Tell
  k_fill
  intro p loose mean mg mb dp un gd cn cs a ccd cl outer A₀ base h₀ L m s Q E B F X N T hk hdp hun hret
  have h0 := H.ge
  refine wpAny_call ?_
  k_dflt walk_at "mine_enter"
  k_steps
  exact hret _ _ _ _ (by k_asm) (by k_asm) ⟨_, rfl, _, _, rfl, rfl, by k_asm⟩
end Mine
end
/-! C5 -/
section
open PySem PySem.W PySem.Calls PyProof.Rows
set_option Elab.async false
set_option maxRecDepth 100000
namespace Mine
local macro_rules | `(tactic| walk_at "call type:int") => `(tactic| (k_here; (with_reducible show wpAny _ _ (call (Value.type "int") [Value.str _ _, Value.int _ _]) _ _ _); k_dflt refine' call_hexD (by assumption) ?_))
local macro_rules | `(tactic| walk_at "call ref") => `(tactic| (k_here; (with_reducible show wpAny _ _ (call (Value.ref 44) _) _ _ _); k_dflt (refine' Tell.use (done_tell ?hx ?hd ?H ?hl ) ?B ?F ?X ?N ?T ?K ?D ?U ?_; (case B => k_asm); (case F => k_asm); (case X => k_asm); (case N => k_asm); (case T => k_asm); (case K => first | exact rfl | assumption); (case hx => k_mem); (case hd => k_mem); (case H => (first | assumption | walk_at "mine_at")); (case hl => assumption); (case D => ktr_room); (case U => ktr_units)); intro r9 h9 tk9 n9 F9 N9 P9; obtain ⟨e1, e2⟩ := P9; subst e1; (first | subst e2 | (obtain ⟨t9, e2⟩ := e2; subst e2)); (try k_sweep); (try simp only [List.cons_append, List.nil_append, hdS, reduceCtorEq, decide_true, decide_false, eq_self]); (try dsimp only)))
local macro_rules | `(tactic| walk_at "call ref") => `(tactic| (k_here; (with_reducible show wpAny _ _ (call (Value.ref 52) _) _ _ _); k_dflt (refine' Tell.use (peek_tell ?hx ?hd ?H ?hl ) ?B ?F ?X ?N ?T ?K ?D ?U ?_; (case B => k_asm); (case F => k_asm); (case X => k_asm); (case N => k_asm); (case T => k_asm); (case K => first | exact rfl | assumption); (case hx => k_mem); (case hd => k_mem); (case H => (first | assumption | walk_at "mine_at")); (case hl => assumption); (case D => ktr_room); (case U => ktr_units)); intro r9 h9 tk9 n9 F9 N9 P9; obtain ⟨e1, e2⟩ := P9; subst e1; (first | subst e2 | (obtain ⟨t9, e2⟩ := e2; subst e2)); (try k_sweep); (try simp only [List.cons_append, List.nil_append, hdS, reduceCtorEq, decide_true, decide_false, eq_self]); (try dsimp only)))
local macro_rules | `(tactic| walk_at "call ref") => `(tactic| (k_here; (with_reducible show wpAny _ _ (call (Value.ref 66) _) _ _ _); k_dflt (refine' Tell.use (upd_tell ?hx ?hU cd_ne (fun rest hn hxd => take_core hn hxd ?H ?hl)) ?B ?F ?X ?N ?T ?K ?D ?U ?_; (case B => k_asm); (case F => k_asm); (case X => k_asm); (case N => k_asm); (case T => k_asm); (case K => first | exact rfl | assumption); (case hx => k_mem); (case hU => k_updF); (case H => assumption); (case hl => assumption); (case D => ktr_room); (case U => ktr_units)); intro r9 h9 tk9 n9 F9 N9 P9; obtain ⟨o9, e1, P9⟩ := P9; obtain ⟨t9, t9', e2, e3, H9⟩ := P9; subst e1 e2 e3; (try k_sweep); (try dsimp only at N9); (try dsimp only)))

set_option maxHeartbeats 8000000 in
theorem coded_core {w : World} {x dx : Addr} {tx : Str} {tt t1 t2 : Tok} {h1 h2 : Int} {a0 : Int} {ta : Tok} {nw : List (Addr × Obj)} (hn : ∀ p ∈ nw, p.1 ≠ dx) (hxd : @Ne Nat x dx) {g1 g2 n1 n2 : Nat} {r : List Nat} {sg : Str} {t7 t8 t9 : Tok} (H : At tx a0 (g1 :: g2 :: r)) (hlen : tx.length ≤ 1000) (hs : sg.cps.toList = [48, 49, 50, 51, 52, 53, 54, 55, 56, 57, 97, 98, 99, 100, 101, 102, 65, 66, 67, 68, 69, 70]) (H1 : HexD g1 n1) (H2 : HexD g2 n2) :
    Tell w 130 [.ref x, .str sg t7, .int 2 t8, .int 16 t9] 9 90 ((x, instObj 147 dx) :: (dx, cd h1 h2 t1 t2 tt tx a0 ta) :: nw) (fun v nw' => ∃ o', nw' = (x, instObj 147 dx) :: (dx, o') :: nw ∧ ∃ t t', v = .str ⟨#[n1 * 16 + n2]⟩ t ∧ o' = cd h1 h2 t1 t2 tt tx (a0 + 1 + 1) t' ∧ At tx (a0 + 1 + 1) (r)) := by
  w_top off
  unfold Tell
  k_fill
  intro p loose mean mg mb dp un gd cn cs a ccd cl outer A₀ base h₀ L m s Q E B F X N T hk hdp hun hret
  have h0 := H.ge
  have e1 := H1.lt
  have e2 := H2.lt
  have m1 := found_yes (x := sg) (by rw [hs]; exact H1.mem)
  have m2 := found_yes (x := sg) (by rw [hs]; exact H2.mem)
  have b1 : ((⟨#[g1]⟩ : Str) != Str.ofString "") = true := by rw [show Str.ofString "" = (⟨#[]⟩ : Str) by decide +kernel]; simp
  have b2 : ((⟨#[g2]⟩ : Str) != Str.ofString "") = true := by rw [show Str.ofString "" = (⟨#[]⟩ : Str) by decide +kernel]; simp
  refine wpAny_call ?_
  k_dflt walk_at "mine_enter"
  k_steps
  unfold Halt
  k_dflt refine' while_two (σ := Nat × Int × Int × Tok × Tok × Tok) (Str.ofString "taken") (Str.ofString "code") (fun c => (x, instObj 147 dx) :: (dx, cd h1 h2 t1 t2 tt tx c.2.1 c.2.2.2.1) :: nw) (fun c => some (.int (c.1 : Int) c.2.2.2.2.1)) (fun c => some (.int c.2.2.1 c.2.2.2.2.2)) (fun c => 2 - c.1)
    (fun c => (c.1 = 0 ∧ c.2.1 = a0 ∧ c.2.2.1 = 0 ∧ At tx c.2.1 (g1 :: g2 :: r)) ∨ (c.1 = 1 ∧ c.2.1 = a0 + 1 ∧ c.2.2.1 = (n1 : Int) ∧ At tx c.2.1 (g2 :: r)) ∨ (c.1 = 2 ∧ c.2.1 = a0 + 1 + 1 ∧ c.2.2.1 = (n1 : Int) * 16 + (n2 : Int) ∧ At tx c.2.1 r)) (0, a0, 0, ta, _, _) (by k_asm) (by k_asm) (.inl ⟨rfl, rfl, rfl, H⟩) ?turn
  rintro ⟨k, a1, cv, tq, tt1, tt2⟩ h₁ tk₁ F₁ N₁ I₁
  k_sweep
  dsimp only at F₁ N₁ I₁
  rcases I₁ with ⟨rfl, rfl, rfl, H₁⟩ | ⟨rfl, rfl, rfl, H₁⟩ | ⟨rfl, rfl, rfl, H₁⟩
  · k_steps
    k_dflt refine' WNext.intro (1, _, _, _, _, _) ?f ?n ?l ?i
    (case f => exact fr_two (by k_asm))
    (case n => k_asm)
    (case l => dsimp only; omega)
    (case i => exact .inr (.inl ⟨rfl, rfl, by dsimp only; omega, by k_asm⟩))
  · k_steps
    k_dflt refine' WNext.intro (2, _, _, _, _, _) ?f ?n ?l ?i
    (case f => exact fr_two (by k_asm))
    (case n => k_asm)
    (case l => dsimp only; omega)
    (case i => exact .inr (.inr ⟨rfl, rfl, by dsimp only; try omega, by k_asm⟩))
  · k_steps
    rw [show ((n1 : Int) * 16 + (n2 : Int)).toNat = n1 * 16 + n2 by omega]
    exact hret _ _ _ _ (by k_asm) (by k_asm) ⟨_, rfl, _, _, rfl, rfl, by k_asm⟩
end Mine
end
/-! C6 -/
section
open PySem PySem.W PySem.Calls PyProof.Rows
set_option Elab.async false
set_option maxRecDepth 100000
namespace Mine
local macro_rules | `(tactic| walk_at "call ref") => `(tactic| (k_here; (with_reducible show wpAny _ _ (call (Value.ref 44) _) _ _ _); k_dflt (refine' Tell.use (done_tell ?hx ?hd ?H ?hl ) ?B ?F ?X ?N ?T ?K ?D ?U ?_; (case B => k_asm); (case F => k_asm); (case X => k_asm); (case N => k_asm); (case T => k_asm); (case K => first | exact rfl | assumption); (case hx => k_mem); (case hd => k_mem); (case H => (first | assumption | walk_at "mine_at")); (case hl => assumption); (case D => ktr_room); (case U => ktr_units)); intro r9 h9 tk9 n9 F9 N9 P9; obtain ⟨e1, e2⟩ := P9; subst e1; (first | subst e2 | (obtain ⟨t9, e2⟩ := e2; subst e2)); (try k_sweep); (try simp only [List.cons_append, List.nil_append, hdS, reduceCtorEq, decide_true, decide_false, eq_self]); (try dsimp only)))
local macro_rules | `(tactic| walk_at "call ref") => `(tactic| (k_here; (with_reducible show wpAny _ _ (call (Value.ref 52) _) _ _ _); k_dflt (refine' Tell.use (peek_tell ?hx ?hd ?H ?hl ) ?B ?F ?X ?N ?T ?K ?D ?U ?_; (case B => k_asm); (case F => k_asm); (case X => k_asm); (case N => k_asm); (case T => k_asm); (case K => first | exact rfl | assumption); (case hx => k_mem); (case hd => k_mem); (case H => (first | assumption | walk_at "mine_at")); (case hl => assumption); (case D => ktr_room); (case U => ktr_units)); intro r9 h9 tk9 n9 F9 N9 P9; obtain ⟨e1, e2⟩ := P9; subst e1; (first | subst e2 | (obtain ⟨t9, e2⟩ := e2; subst e2)); (try k_sweep); (try simp only [List.cons_append, List.nil_append, hdS, reduceCtorEq, decide_true, decide_false, eq_self]); (try dsimp only)))
local macro_rules | `(tactic| walk_at "call ref") => `(tactic| (k_here; (with_reducible show wpAny _ _ (call (Value.ref 52) _) _ _ _); k_dflt (refine' Tell.use (peek1_tell ?hx ?hd ?H ?hl ) ?B ?F ?X ?N ?T ?K ?D ?U ?_; (case B => k_asm); (case F => k_asm); (case X => k_asm); (case N => k_asm); (case T => k_asm); (case K => first | exact rfl | assumption); (case hx => k_mem); (case hd => k_mem); (case H => (first | assumption | walk_at "mine_at")); (case hl => assumption); (case D => ktr_room); (case U => ktr_units)); intro r9 h9 tk9 n9 F9 N9 P9; obtain ⟨e1, e2⟩ := P9; subst e1; (first | subst e2 | (obtain ⟨t9, e2⟩ := e2; subst e2)); (try k_sweep); (try simp only [List.cons_append, List.nil_append, hdS, reduceCtorEq, decide_true, decide_false, eq_self]); (try dsimp only)))
local macro_rules | `(tactic| walk_at "call ref") => `(tactic| (k_here; (with_reducible show wpAny _ _ (call (Value.ref 66) _) _ _ _); k_dflt (refine' Tell.use (upd_tell ?hx ?hU cd_ne (fun rest hn hxd => take_core hn hxd ?H ?hl)) ?B ?F ?X ?N ?T ?K ?D ?U ?_; (case B => k_asm); (case F => k_asm); (case X => k_asm); (case N => k_asm); (case T => k_asm); (case K => first | exact rfl | assumption); (case hx => k_mem); (case hU => k_updF); (case H => assumption); (case hl => assumption); (case D => ktr_room); (case U => ktr_units)); intro r9 h9 tk9 n9 F9 N9 P9; obtain ⟨o9, e1, P9⟩ := P9; obtain ⟨t9, t9', e2, e3, H9⟩ := P9; subst e1 e2 e3; (try k_sweep); (try dsimp only at N9); (try dsimp only)))
local macro_rules | `(tactic| walk_at "call ref") => `(tactic| (k_here; (with_reducible show wpAny _ _ (call (Value.ref 130) _) _ _ _); k_dflt (refine' Tell.use (upd_tell ?hx ?hU cd_ne (fun rest hn hxd => coded_core hn hxd ?H ?hl ?hs ?H1 ?H2)) ?B ?F ?X ?N ?T ?K ?D ?U ?_; (case B => k_asm); (case F => k_asm); (case X => k_asm); (case N => k_asm); (case T => k_asm); (case K => first | exact rfl | assumption); (case hx => k_mem); (case hU => k_updF); (case H => assumption); (case hl => assumption); (case hs => (first | rfl | decide +kernel)); (case H1 => assumption); (case H2 => assumption); (case D => ktr_room); (case U => ktr_units)); intro r9 h9 tk9 n9 F9 N9 P9; obtain ⟨o9, e1, P9⟩ := P9; obtain ⟨t9, t9', e2, e3, H9⟩ := P9; subst e1 e2 e3; (try k_sweep); (try dsimp only at N9); (try dsimp only)))

set_option maxHeartbeats 8000000 in
theorem esc_n {w : World} {x dx : Addr} {tx : Str} {tt t1 t2 : Tok} {h1 h2 : Int} {a0 : Int} {ta : Tok} {nw : List (Addr × Obj)} (hn : ∀ p ∈ nw, p.1 ≠ dx) (hxd : @Ne Nat x dx) {r : List Nat}  (H : At tx a0 (110 :: r)) (hlen : tx.length ≤ 1000) :
    Tell w 137 [.ref x] 12 120 ((x, instObj 147 dx) :: (dx, cd h1 h2 t1 t2 tt tx a0 ta) :: nw) (fun v nw' => ∃ o', nw' = (x, instObj 147 dx) :: (dx, o') :: nw ∧ ∃ t t', v = .str ⟨#[10]⟩ t ∧ o' = cd h1 h2 t1 t2 tt tx (a0 + 1) t' ∧ At tx (a0 + 1) (r)) := by
  w_top off
  unfold Tell
  k_fill
  intro p loose mean mg mb dp un gd cn cs a ccd cl outer A₀ base h₀ L m s Q E B F X N T hk hdp hun hret
  have h0 := H.ge
  refine wpAny_call ?_
  k_dflt walk_at "mine_enter"
  k_steps
  all_goals first
    | exact hret _ _ _ _ (by k_asm) (by k_asm) ⟨_, rfl, _, _, rfl, rfl, by k_asm⟩
    | (rename (List.isEmpty _ = _) => q; exact absurd q (by decide +kernel))
    | trace_state

set_option maxHeartbeats 8000000 in
theorem esc_t {w : World} {x dx : Addr} {tx : Str} {tt t1 t2 : Tok} {h1 h2 : Int} {a0 : Int} {ta : Tok} {nw : List (Addr × Obj)} (hn : ∀ p ∈ nw, p.1 ≠ dx) (hxd : @Ne Nat x dx) {r : List Nat}  (H : At tx a0 (116 :: r)) (hlen : tx.length ≤ 1000) :
    Tell w 137 [.ref x] 12 120 ((x, instObj 147 dx) :: (dx, cd h1 h2 t1 t2 tt tx a0 ta) :: nw) (fun v nw' => ∃ o', nw' = (x, instObj 147 dx) :: (dx, o') :: nw ∧ ∃ t t', v = .str ⟨#[9]⟩ t ∧ o' = cd h1 h2 t1 t2 tt tx (a0 + 1) t' ∧ At tx (a0 + 1) (r)) := by
  w_top off
  unfold Tell
  k_fill
  intro p loose mean mg mb dp un gd cn cs a ccd cl outer A₀ base h₀ L m s Q E B F X N T hk hdp hun hret
  have h0 := H.ge
  refine wpAny_call ?_
  k_dflt walk_at "mine_enter"
  k_steps
  all_goals first
    | exact hret _ _ _ _ (by k_asm) (by k_asm) ⟨_, rfl, _, _, rfl, rfl, by k_asm⟩
    | (rename (List.isEmpty _ = _) => q; exact absurd q (by decide +kernel))
    | trace_state

set_option maxHeartbeats 8000000 in
theorem esc_dq {w : World} {x dx : Addr} {tx : Str} {tt t1 t2 : Tok} {h1 h2 : Int} {a0 : Int} {ta : Tok} {nw : List (Addr × Obj)} (hn : ∀ p ∈ nw, p.1 ≠ dx) (hxd : @Ne Nat x dx) {r : List Nat}  (H : At tx a0 (34 :: r)) (hlen : tx.length ≤ 1000) :
    Tell w 137 [.ref x] 12 120 ((x, instObj 147 dx) :: (dx, cd h1 h2 t1 t2 tt tx a0 ta) :: nw) (fun v nw' => ∃ o', nw' = (x, instObj 147 dx) :: (dx, o') :: nw ∧ ∃ t t', v = .str ⟨#[34]⟩ t ∧ o' = cd h1 h2 t1 t2 tt tx (a0 + 1) t' ∧ At tx (a0 + 1) (r)) := by
  w_top off
  unfold Tell
  k_fill
  intro p loose mean mg mb dp un gd cn cs a ccd cl outer A₀ base h₀ L m s Q E B F X N T hk hdp hun hret
  have h0 := H.ge
  refine wpAny_call ?_
  k_dflt walk_at "mine_enter"
  k_steps
  all_goals first
    | exact hret _ _ _ _ (by k_asm) (by k_asm) ⟨_, rfl, _, _, rfl, rfl, by k_asm⟩
    | (rename (List.isEmpty _ = _) => q; exact absurd q (by decide +kernel))
    | trace_state

set_option maxHeartbeats 8000000 in
theorem esc_sq {w : World} {x dx : Addr} {tx : Str} {tt t1 t2 : Tok} {h1 h2 : Int} {a0 : Int} {ta : Tok} {nw : List (Addr × Obj)} (hn : ∀ p ∈ nw, p.1 ≠ dx) (hxd : @Ne Nat x dx) {r : List Nat}  (H : At tx a0 (39 :: r)) (hlen : tx.length ≤ 1000) :
    Tell w 137 [.ref x] 12 120 ((x, instObj 147 dx) :: (dx, cd h1 h2 t1 t2 tt tx a0 ta) :: nw) (fun v nw' => ∃ o', nw' = (x, instObj 147 dx) :: (dx, o') :: nw ∧ ∃ t t', v = .str ⟨#[39]⟩ t ∧ o' = cd h1 h2 t1 t2 tt tx (a0 + 1) t' ∧ At tx (a0 + 1) (r)) := by
  w_top off
  unfold Tell
  k_fill
  intro p loose mean mg mb dp un gd cn cs a ccd cl outer A₀ base h₀ L m s Q E B F X N T hk hdp hun hret
  have h0 := H.ge
  refine wpAny_call ?_
  k_dflt walk_at "mine_enter"
  k_steps
  all_goals first
    | exact hret _ _ _ _ (by k_asm) (by k_asm) ⟨_, rfl, _, _, rfl, rfl, by k_asm⟩
    | (rename (List.isEmpty _ = _) => q; exact absurd q (by decide +kernel))
    | trace_state

set_option maxHeartbeats 8000000 in
theorem esc_sl {w : World} {x dx : Addr} {tx : Str} {tt t1 t2 : Tok} {h1 h2 : Int} {a0 : Int} {ta : Tok} {nw : List (Addr × Obj)} (hn : ∀ p ∈ nw, p.1 ≠ dx) (hxd : @Ne Nat x dx) {r : List Nat}  (H : At tx a0 (47 :: r)) (hlen : tx.length ≤ 1000) :
    Tell w 137 [.ref x] 12 120 ((x, instObj 147 dx) :: (dx, cd h1 h2 t1 t2 tt tx a0 ta) :: nw) (fun v nw' => ∃ o', nw' = (x, instObj 147 dx) :: (dx, o') :: nw ∧ ∃ t t', v = .str ⟨#[47]⟩ t ∧ o' = cd h1 h2 t1 t2 tt tx (a0 + 1) t' ∧ At tx (a0 + 1) (r)) := by
  w_top off
  unfold Tell
  k_fill
  intro p loose mean mg mb dp un gd cn cs a ccd cl outer A₀ base h₀ L m s Q E B F X N T hk hdp hun hret
  have h0 := H.ge
  refine wpAny_call ?_
  k_dflt walk_at "mine_enter"
  k_steps
  all_goals first
    | exact hret _ _ _ _ (by k_asm) (by k_asm) ⟨_, rfl, _, _, rfl, rfl, by k_asm⟩
    | (rename (List.isEmpty _ = _) => q; exact absurd q (by decide +kernel))
    | trace_state

set_option maxHeartbeats 8000000 in
theorem esc_ba {w : World} {x dx : Addr} {tx : Str} {tt t1 t2 : Tok} {h1 h2 : Int} {a0 : Int} {ta : Tok} {nw : List (Addr × Obj)} (hn : ∀ p ∈ nw, p.1 ≠ dx) (hxd : @Ne Nat x dx) {r : List Nat}  (H : At tx a0 (124 :: r)) (hlen : tx.length ≤ 1000) :
    Tell w 137 [.ref x] 12 120 ((x, instObj 147 dx) :: (dx, cd h1 h2 t1 t2 tt tx a0 ta) :: nw) (fun v nw' => ∃ o', nw' = (x, instObj 147 dx) :: (dx, o') :: nw ∧ ∃ t t', v = .str ⟨#[124]⟩ t ∧ o' = cd h1 h2 t1 t2 tt tx (a0 + 1) t' ∧ At tx (a0 + 1) (r)) := by
  w_top off
  unfold Tell
  k_fill
  intro p loose mean mg mb dp un gd cn cs a ccd cl outer A₀ base h₀ L m s Q E B F X N T hk hdp hun hret
  have h0 := H.ge
  refine wpAny_call ?_
  k_dflt walk_at "mine_enter"
  k_steps
  all_goals first
    | exact hret _ _ _ _ (by k_asm) (by k_asm) ⟨_, rfl, _, _, rfl, rfl, by k_asm⟩
    | (rename (List.isEmpty _ = _) => q; exact absurd q (by decide +kernel))
    | trace_state

set_option maxHeartbeats 8000000 in
theorem esc_bs {w : World} {x dx : Addr} {tx : Str} {tt t1 t2 : Tok} {h1 h2 : Int} {a0 : Int} {ta : Tok} {nw : List (Addr × Obj)} (hn : ∀ p ∈ nw, p.1 ≠ dx) (hxd : @Ne Nat x dx) {r : List Nat}  (H : At tx a0 (92 :: r)) (hlen : tx.length ≤ 1000) :
    Tell w 137 [.ref x] 12 120 ((x, instObj 147 dx) :: (dx, cd h1 h2 t1 t2 tt tx a0 ta) :: nw) (fun v nw' => ∃ o', nw' = (x, instObj 147 dx) :: (dx, o') :: nw ∧ ∃ t t', v = .str ⟨#[92]⟩ t ∧ o' = cd h1 h2 t1 t2 tt tx (a0 + 1) t' ∧ At tx (a0 + 1) (r)) := by
  w_top off
  unfold Tell
  k_fill
  intro p loose mean mg mb dp un gd cn cs a ccd cl outer A₀ base h₀ L m s Q E B F X N T hk hdp hun hret
  have h0 := H.ge
  refine wpAny_call ?_
  k_dflt walk_at "mine_enter"
  k_steps
  all_goals first
    | exact hret _ _ _ _ (by k_asm) (by k_asm) ⟨_, rfl, _, _, rfl, rfl, by k_asm⟩
    | (rename (List.isEmpty _ = _) => q; exact absurd q (by decide +kernel))
    | trace_state

set_option maxHeartbeats 8000000 in
theorem esc_x {w : World} {x dx : Addr} {tx : Str} {tt t1 t2 : Tok} {h1 h2 : Int} {a0 : Int} {ta : Tok} {nw : List (Addr × Obj)} (hn : ∀ p ∈ nw, p.1 ≠ dx) (hxd : @Ne Nat x dx) {r : List Nat} {g1 g2 n1 n2 : Nat} (H1 : HexD g1 n1) (H2 : HexD g2 n2) (H : At tx a0 (120 :: g1 :: g2 :: r)) (hlen : tx.length ≤ 1000) :
    Tell w 137 [.ref x] 12 120 ((x, instObj 147 dx) :: (dx, cd h1 h2 t1 t2 tt tx a0 ta) :: nw) (fun v nw' => ∃ o', nw' = (x, instObj 147 dx) :: (dx, o') :: nw ∧ ∃ t t', v = .str ⟨#[n1 * 16 + n2]⟩ t ∧ o' = cd h1 h2 t1 t2 tt tx (a0 + 1 + 1 + 1) t' ∧ At tx (a0 + 1 + 1 + 1) (r)) := by
  w_top off
  unfold Tell
  k_fill
  intro p loose mean mg mb dp un gd cn cs a ccd cl outer A₀ base h₀ L m s Q E B F X N T hk hdp hun hret
  have h0 := H.ge
  have e1 := H1.lt
  have e2 := H2.lt
  have b1 : ((⟨#[g1]⟩ : Str) != Str.ofString "") = true := by rw [show Str.ofString "" = (⟨#[]⟩ : Str) by decide +kernel]; simp
  have m1 := found_yes (x := Str.ofString "0123456789abcdefABCDEF") (by rw [show (Str.ofString "0123456789abcdefABCDEF").cps.toList = [48, 49, 50, 51, 52, 53, 54, 55, 56, 57, 97, 98, 99, 100, 101, 102, 65, 66, 67, 68, 69, 70] by decide +kernel]; exact H1.mem)
  refine wpAny_call ?_
  k_dflt walk_at "mine_enter"
  k_steps
  all_goals first
    | exact hret _ _ _ _ (by k_asm) (by k_asm) ⟨_, rfl, _, _, rfl, rfl, by k_asm⟩
    | (rename (List.isEmpty _ = _) => q; exact absurd q (by decide +kernel))
    | trace_state
end Mine
end
/-! C7 -/
section
open PySem PySem.W PySem.Calls PyProof.Rows
set_option Elab.async false
set_option maxRecDepth 100000
namespace Mine
local macro_rules | `(tactic| walk_at "mine_pad") => `(tactic| fail)

theorem escape_core {w : World} {x dx : Addr} {tx : Str} {tt t1 t2 : Tok} {h1 h2 : Int} {a0 : Int} {ta : Tok} {nw : List (Addr × Obj)} (hn : ∀ p ∈ nw, p.1 ≠ dx) (hxd : @Ne Nat x dx) {v : List Nat} {o : Nat} {r : List Nat} (H : At tx a0 (v ++ r)) (hE : EscF v o) (hlen : tx.length ≤ 1000) :
    Tell w 137 [.ref x] 12 120 ((x, instObj 147 dx) :: (dx, cd h1 h2 t1 t2 tt tx a0 ta) :: nw) (fun vv nw' => ∃ o', nw' = (x, instObj 147 dx) :: (dx, o') :: nw ∧ ∃ t t', vv = .str ⟨#[o]⟩ t ∧ o' = cd h1 h2 t1 t2 tt tx (a0 + (v.length : Int)) t' ∧ At tx (a0 + (v.length : Int)) (r)) := by
  cases hE with
  | n => exact esc_n hn hxd H hlen
  | t => exact esc_t hn hxd H hlen
  | dq => exact esc_dq hn hxd H hlen
  | sq => exact esc_sq hn hxd H hlen
  | sl => exact esc_sl hn hxd H hlen
  | ba => exact esc_ba hn hxd H hlen
  | bs => exact esc_bs hn hxd H hlen
  | @x g1 g2 n1 n2 H1 H2 =>
    have := esc_x (w := w) (t1 := t1) (t2 := t2) (tt := tt) (h1 := h1) (h2 := h2) (ta := ta) hn hxd H1 H2 H hlen
    rwa [show a0 + 1 + 1 + 1 = a0 + (([120, g1, g2] : List Nat).length : Int) by simp; omega] at this
local macro_rules | `(tactic| walk_at "call builtin:str.join") => `(tactic| (k_here; k_dflt (refine' join_at ?N ?m ?i ?t ?o ?r ?_; (case N => k_asm); (case m => k_mem); (case i => (first | rfl | assumption)); (case t => assumption); (case o => assumption); (case r => assumption)); intro t9 k9))
local macro_rules | `(tactic| walk_at "call builtin:list.append") => `(tactic| (k_here; (with_reducible show wpAny _ _ (call (Value.builtin _) [Value.ref _, _]) _ _ _); k_dflt (refine' append_K ?k1 ?k2 ?k3 ?_ ?z; (case k1 => k_asm); (case k2 => k_asm); (case k3 => k_upd); (case z => assumption); k_whole); intro h' F' N'; (try k_sweep)))
local macro_rules | `(tactic| walk_at "call ref") => `(tactic| (k_here; (with_reducible show wpAny _ _ (call (Value.ref 44) _) _ _ _); k_dflt (refine' Tell.use (done_tell ?hx ?hd ?H ?hl ) ?B ?F ?X ?N ?T ?K ?D ?U ?_; (case B => k_asm); (case F => k_asm); (case X => k_asm); (case N => k_asm); (case T => k_asm); (case K => first | exact rfl | assumption); (case hx => k_mem); (case hd => k_mem); (case H => (first | assumption | walk_at "mine_at")); (case hl => assumption); (case D => ktr_room); (case U => ktr_units)); intro r9 h9 tk9 n9 F9 N9 P9; obtain ⟨e1, e2⟩ := P9; subst e1; (first | subst e2 | (obtain ⟨t9, e2⟩ := e2; subst e2)); (try k_sweep); (try simp only [List.cons_append, List.nil_append, hdS, reduceCtorEq, decide_true, decide_false, eq_self]); (try dsimp only)))
local macro_rules | `(tactic| walk_at "call ref") => `(tactic| (k_here; (with_reducible show wpAny _ _ (call (Value.ref 66) _) _ _ _); k_dflt (refine' Tell.use (upd_tell ?hx ?hU cd_ne (fun rest hn hxd => take_core hn hxd ?H ?hl)) ?B ?F ?X ?N ?T ?K ?D ?U ?_; (case B => k_asm); (case F => k_asm); (case X => k_asm); (case N => k_asm); (case T => k_asm); (case K => first | exact rfl | assumption); (case hx => k_mem); (case hU => k_updF); (case H => assumption); (case hl => assumption); (case D => ktr_room); (case U => ktr_units)); intro r9 h9 tk9 n9 F9 N9 P9; obtain ⟨o9, e1, P9⟩ := P9; obtain ⟨t9, t9', e2, e3, H9⟩ := P9; subst e1 e2 e3; (try k_sweep); (try dsimp only at N9); (try dsimp only)))
local macro_rules | `(tactic| walk_at "call ref") => `(tactic| (k_here; (with_reducible show wpAny _ _ (call (Value.ref 137) _) _ _ _); k_dflt (refine' Tell.use (upd_tell ?hx ?hU cd_ne (fun rest hn hxd => escape_core hn hxd ?H ?hE ?hl)) ?B ?F ?X ?N ?T ?K ?D ?U ?_; (case B => k_asm); (case F => k_asm); (case X => k_asm); (case N => k_asm); (case T => k_asm); (case K => first | exact rfl | assumption); (case hx => k_mem); (case hU => k_updF); (case H => assumption); (case hE => assumption); (case hl => assumption); (case D => ktr_room); (case U => ktr_units)); intro r9 h9 tk9 n9 F9 N9 P9; obtain ⟨o9, e1, P9⟩ := P9; obtain ⟨t9, t9', e2, e3, H9⟩ := P9; subst e1 e2 e3; (try k_sweep); (try dsimp only at N9); (try dsimp only)))

set_option maxHeartbeats 1500000 in
theorem quoted_core {w : World} {x dx : Addr} {tx : Str} {tt t1 t2 : Tok} {h1 h2 : Int} {a0 : Int} {ta : Tok} {nw : List (Addr × Obj)} (hn : ∀ p ∈ nw, p.1 ≠ dx) (hxd : @Ne Nat x dx) {w0 r : List Nat} {e : Nat} {en : Str} {t9 : Tok} (hen : en = ⟨#[e]⟩) (he : Ends e) (H : At tx a0 (escL e w0 ++ e :: r)) (hw : w0.length ≤ 6) (hlen : tx.length ≤ 1000) :
    Tell w 144 [.ref x, .str en t9] 15 150 ((x, instObj 147 dx) :: (dx, cd h1 h2 t1 t2 tt tx a0 ta) :: nw) (fun v nw' => ∃ o', nw' = (x, instObj 147 dx) :: (dx, o') :: nw ∧ ∃ t t', v = .str ⟨w0.toArray⟩ t ∧ o' = cd h1 h2 t1 t2 tt tx (a0 + ((escL e w0).length : Int) + 1) t' ∧ At tx (a0 + ((escL e w0).length : Int) + 1) (r)) := by
  w_top off
  unfold Tell
  k_fill
  intro p loose mean mg mb dp un gd cn cs a ccd cl outer A₀ base h₀ L m s Q E B F X N T hk hdp hun hret
  subst hen
  have h0 := H.ge
  refine wpAny_call ?_
  k_dflt walk_at "mine_enter"
  k_steps
  unfold Halt
  (rename Fr _ _ _ _ => F')
  have F'' := fr_none F' (Str.ofString "sign") (by rfl)
  k_dflt refine' while_one (σ := List Nat × (Int × Tok) × (List (Str × Tok) × Nat) × Option Value) (Str.ofString "sign") (fun c => (_, listOf (strValues c.2.2.1.1).toArray c.2.2.1.2) :: (x, instObj 147 dx) :: (dx, cd h1 h2 t1 t2 tt tx c.2.1.1 c.2.1.2) :: nw) (fun c => c.2.2.2) (fun c => c.1.length)
    (fun c => ∃ w1, w0 = w1 ++ c.1 ∧ c.2.2.1.1.map (·.1) = w1.map (fun c => mk [c]) ∧ c.2.1.1 = a0 + ((escL e w1).length : Int) ∧ At tx c.2.1.1 (escL e c.1 ++ e :: r)) (w0, (a0, ta), ([], 0), none) F'' (by k_asm) ⟨[], rfl, rfl, by simp [escL], H⟩ ?turn
  rintro ⟨w2, ⟨a1, tq⟩, ⟨l, n⟩, sg⟩ h₁ tk₁ F₁ N₁ ⟨w1, e1, e2, e3, H₁⟩
  dsimp only at F₁ N₁ e1 e2 e3 H₁
  clear F''
  k_sweep
  (rename (_ ∧ _ ∧ AllLt _ _) => l1)
  obtain ⟨lx, ld, ln⟩ := l1
  have hlw : w1.length + w2.length = w0.length := by rw [e1, List.length_append]
  have hll : l.length = w1.length := by have := congrArg List.length e2; simpa using this
  cases w2 with
  | nil =>
    rw [show escL e [] = [] from rfl, List.nil_append] at H₁
    have b0 : ((⟨#[e]⟩ : Str) == ⟨#[e]⟩) = true := beq_self_eq_true _
    have hs0 : Str.ofString "" = mk [] := by decide +kernel
    have hok : JoinOk (Str.ofString "") (w1.map fun c => mk [c]) = true := joinOk_of (m := 6) (c := 1) (by simp; omega) (by simp [mk_len]) (by rw [hs0, mk_len]; decide)
    have hj : Txt.join (Str.ofString "") (w1.map fun c => mk [c]) = ⟨w1.toArray⟩ := by rw [hs0]; exact join_sgl w1
    k_steps
    unfold WEnd WNext
    dsimp only
    k_steps
    rw [List.append_nil] at e1
    subst e1 e3
    exact hret _ _ _ _ (by k_asm) (news_tail (by k_asm)) ⟨_, rfl, _, _, rfl, rfl, by k_asm⟩
  | cons c w2 =>
    have hsz : (strValues l).toArray.size ≤ sizeLine := by rw [strValues_size, sizeLine_eq]; omega
    have hw' : (escL e (w1 ++ [c])).length = (escL e w1).length + (escN e c).length := by rw [escL_snoc, List.length_append]
    rw [escL_cons, List.append_assoc] at H₁
    rcases escOf he c with ⟨q1, q2, q3⟩ | ⟨v, q1, q2⟩
    · rw [q1] at H₁
      rw [List.cons_append, List.nil_append] at H₁
      have b1 : ((⟨#[c]⟩ : Str) == ⟨#[e]⟩) = false := by simp [q2]
      have b2 : ((⟨#[c]⟩ : Str) == Str.ofString "\\") = false := by rw [show Str.ofString "\\" = (⟨#[92]⟩ : Str) by decide +kernel]; simp [q3]
      k_steps
      k_dflt refine' WNext.intro (w2, (_, _), (l ++ [(mk [c], _)], n + 1), _) ?f ?n ?l ?i
      (case f => exact fr_again (by k_asm))
      (case n => dsimp only; rw [strValues_snoc]; k_asm)
      (case l => simp)
      (case i =>
        refine ⟨w1 ++ [c], by simp [e1], by simp [e2], ?_, by k_asm⟩
        dsimp only
        rw [hw', q1, e3]
        simp
        try omega)
    · rw [q1, List.cons_append] at H₁
      have he2 := he.ne
      have b1 : (Str.ofString "\\" == (⟨#[e]⟩ : Str)) = false := by rw [show Str.ofString "\\" = (⟨#[92]⟩ : Str) by decide +kernel]; simp [Ne.symm he2]
      have b2 : ((⟨#[c]⟩ : Str) == Str.ofString "") = false := by rw [show Str.ofString "" = (⟨#[]⟩ : Str) by decide +kernel]; simp
      k_steps
      k_dflt refine' WNext.intro (w2, (_, _), (l ++ [(mk [c], _)], n + 1), _) ?f ?n ?l ?i
      (case f => exact fr_again (fr_again (by k_asm)))
      (case n => dsimp only; rw [strValues_snoc]; k_asm)
      (case l => simp)
      (case i =>
        refine ⟨w1 ++ [c], by simp [e1], by simp [e2], ?_, by k_asm⟩
        dsimp only
        rw [hw', q1, e3]
        simp
        try omega)
end Mine
end
/-! C8 -/
section
open PySem PySem.W PySem.Calls PyProof.Rows
set_option Elab.async false
set_option maxRecDepth 100000
namespace Mine

theorem skipno_tell {w : World} {x dx : Addr} {tx : Str} {tt t1 t2 : Tok} {h1 h2 : Int} {a0 : Int} {ta : Tok} {nw : List (Addr × Obj)} {wd : Str} {t9 : Tok} {r : List Nat} (hx : (x, instObj 147 dx) ∈ nw) (hd : (dx, cd h1 h2 t1 t2 tt tx a0 ta) ∈ nw) (H : At tx a0 r) (hlen : tx.length ≤ 1000) (hno : ¬ wd.cps.toList <+: r) (hwd : wd.length ≤ 10) :
    Tell w 73 [.ref x, .str wd t9] 6 60 (nw) (fun v nw' => nw' = nw ∧ v = .bool false) := (read_tell (pre := [(x, instObj 147 dx), (dx, cd h1 h2 t1 t2 tt tx a0 ta)]) (List.forall_mem_cons.mpr ⟨hx, List.forall_mem_cons.mpr ⟨hd, List.forall_mem_nil _⟩⟩) (skipno_core H hno hlen hwd))

theorem cps1 : (Str.ofString "\"").cps.toList = [34] := by decide +kernel
theorem cps2 : (Str.ofString "[").cps.toList = [91] := by decide +kernel
theorem cps3 : (Str.ofString "]").cps.toList = [93] := by decide +kernel
theorem cps4 : (Str.ofString ", ").cps.toList = [44, 32] := by decide +kernel
theorem cps5 : (Str.ofString "-").cps.toList = [45] := by decide +kernel
theorem no1 {c d : Nat} {r : List Nat} (h : c ≠ d) : ¬ [c] <+: d :: r := by
  intro q; obtain ⟨u, e⟩ := q; simp at e; exact h e.1
theorem len1 : (Str.ofString "\"").length = 1 := by decide +kernel
theorem len2 : (Str.ofString "[").length = 1 := by decide +kernel
theorem len3 : (Str.ofString "]").length = 1 := by decide +kernel
theorem len4 : (Str.ofString ", ").length = 2 := by decide +kernel
theorem len5 : (Str.ofString "-").length = 1 := by decide +kernel
/-- what may stand behind a value -/
def Stop (r : List Nat) : Prop := ∀ c l, r = c :: l → c = 44 ∨ c = 93
def readPost (x dx : Addr) (h1 h2 : Int) (t1 t2 tt : Tok) (tx : Str) (nw : List (Addr × Obj)) (d : Dat) (r : List Nat) (v : Value) (nw' : List (Addr × Obj)) : Prop :=
  ∃ tl a' t', nw' = (x, instObj 147 dx) :: (dx, cd h1 h2 t1 t2 tt tx a' t') :: (tl ++ nw) ∧ DatIn tl v d ∧ (∀ q ∈ tl, @Ne Nat q.1 x ∧ @Ne Nat q.1 dx ∧ ∀ p ∈ nw, @Ne Nat p.1 q.1) ∧ At tx a' r
end Mine
end
/-! C9 -/
section
open PySem PySem.W PySem.Calls PyProof.Rows
set_option Elab.async false
set_option maxRecDepth 100000
namespace Mine
local macro_rules | `(tactic| walk_at "call ref") => `(tactic| (k_here; (with_reducible show wpAny _ _ (call (Value.ref 44) _) _ _ _); k_dflt (refine' Tell.use (done_tell ?hx ?hd ?H ?hl ) ?B ?F ?X ?N ?T ?K ?D ?U ?_; (case B => k_asm); (case F => k_asm); (case X => k_asm); (case N => k_asm); (case T => k_asm); (case K => first | exact rfl | assumption); (case hx => k_mem); (case hd => k_mem); (case H => (first | assumption | walk_at "mine_at")); (case hl => assumption); (case D => ktr_room); (case U => ktr_units)); intro r9 h9 tk9 n9 F9 N9 P9; obtain ⟨e1, e2⟩ := P9; subst e1; (first | subst e2 | (obtain ⟨t9, e2⟩ := e2; subst e2)); (try k_sweep); (try simp only [List.cons_append, List.nil_append, hdS, reduceCtorEq, decide_true, decide_false, eq_self]); (try dsimp only)))
local macro_rules | `(tactic| walk_at "call ref") => `(tactic| (k_here; (with_reducible show wpAny _ _ (call (Value.ref 52) _) _ _ _); k_dflt (refine' Tell.use (peek_tell ?hx ?hd ?H ?hl ) ?B ?F ?X ?N ?T ?K ?D ?U ?_; (case B => k_asm); (case F => k_asm); (case X => k_asm); (case N => k_asm); (case T => k_asm); (case K => first | exact rfl | assumption); (case hx => k_mem); (case hd => k_mem); (case H => (first | assumption | walk_at "mine_at")); (case hl => assumption); (case D => ktr_room); (case U => ktr_units)); intro r9 h9 tk9 n9 F9 N9 P9; obtain ⟨e1, e2⟩ := P9; subst e1; (first | subst e2 | (obtain ⟨t9, e2⟩ := e2; subst e2)); (try k_sweep); (try simp only [List.cons_append, List.nil_append, hdS, reduceCtorEq, decide_true, decide_false, eq_self]); (try dsimp only)))
local macro_rules | `(tactic| walk_at "call ref") => `(tactic| (k_here; (with_reducible show wpAny _ _ (call (Value.ref 73) _) _ _ _); k_dflt (refine' Tell.use (upd_tell ?hx ?hU cd_ne (fun rest hn hxd => skip_core hn hxd ?H ?hl ?hw)) ?B ?F ?X ?N ?T ?K ?D ?U ?_; (case B => k_asm); (case F => k_asm); (case X => k_asm); (case N => k_asm); (case T => k_asm); (case K => first | exact rfl | assumption); (case hx => k_mem); (case hU => k_updF); (case H => assumption); (case hl => assumption); (case hw => decide); (case D => ktr_room); (case U => ktr_units)); intro r9 h9 tk9 n9 F9 N9 P9; obtain ⟨o9, e1, P9⟩ := P9; obtain ⟨t9, t9', e2, e3, H9⟩ := P9; subst e1 e2 e3; (try k_sweep); (try dsimp only at N9); (try dsimp only)))
local macro_rules | `(tactic| walk_at "call ref") => `(tactic| (k_here; (with_reducible show wpAny _ _ (call (Value.ref 73) _) _ _ _); k_dflt (refine' Tell.use (skipno_tell ?hx ?hd ?H ?hl ?hno ?hw) ?B ?F ?X ?N ?T ?K ?D ?U ?_; (case B => k_asm); (case F => k_asm); (case X => k_asm); (case N => k_asm); (case T => k_asm); (case K => first | exact rfl | assumption); (case hx => k_mem); (case hd => k_mem); (case H => (first | assumption | walk_at "mine_at")); (case hl => assumption); (case hno => assumption); (case hw => decide); (case D => ktr_room); (case U => ktr_units)); intro r9 h9 tk9 n9 F9 N9 P9; obtain ⟨e1, e2⟩ := P9; subst e1; (first | subst e2 | (obtain ⟨t9, e2⟩ := e2; subst e2)); (try k_sweep); (try simp only [List.cons_append, List.nil_append, hdS, reduceCtorEq, decide_true, decide_false, eq_self]); (try dsimp only)))
local macro_rules | `(tactic| walk_at "call ref") => `(tactic| (k_here; (with_reducible show wpAny _ _ (call (Value.ref 102) _) _ _ _); k_dflt (refine' Tell.use (upd_tell ?hx ?hU cd_ne (fun rest hn hxd => name_core hn hxd ?H ?hl ?hr)) ?B ?F ?X ?N ?T ?K ?D ?U ?_; (case B => k_asm); (case F => k_asm); (case X => k_asm); (case N => k_asm); (case T => k_asm); (case K => first | exact rfl | assumption); (case hx => k_mem); (case hU => k_updF); (case H => assumption); (case hl => assumption); (case hr => assumption); (case D => ktr_room); (case U => ktr_units)); intro r9 h9 tk9 n9 F9 N9 P9; obtain ⟨o9, e1, P9⟩ := P9; obtain ⟨t9, t9', e2, e3, H9⟩ := P9; subst e1 e2 e3; (try k_sweep); (try dsimp only at N9); (try dsimp only)))
local macro_rules | `(tactic| walk_at "call ref") => `(tactic| (k_here; (with_reducible show wpAny _ _ (call (Value.ref 109) _) _ _ _); k_dflt (refine' Tell.use (upd_tell ?hx ?hU cd_ne (fun rest hn hxd => number_core hn hxd ?H ?hl ?hu ?hr ?hI ?hne ?hl2)) ?B ?F ?X ?N ?T ?K ?D ?U ?_; (case B => k_asm); (case F => k_asm); (case X => k_asm); (case N => k_asm); (case T => k_asm); (case K => first | exact rfl | assumption); (case hx => k_mem); (case hU => k_updF); (case H => assumption); (case hl => assumption); (case hu => assumption); (case hr => assumption); (case hI => assumption); (case hne => assumption); (case hl2 => assumption); (case D => ktr_room); (case U => ktr_units)); intro r9 h9 tk9 n9 F9 N9 P9; obtain ⟨o9, e1, P9⟩ := P9; obtain ⟨t9, t9', e2, e3, H9⟩ := P9; subst e1 e2 e3; (try k_sweep); (try dsimp only at N9); (try dsimp only)))
local macro_rules | `(tactic| walk_at "call ref") => `(tactic| (k_here; (with_reducible show wpAny _ _ (call (Value.ref 144) _) _ _ _); k_dflt (refine' Tell.use (upd_tell ?hx ?hU cd_ne (fun rest hn hxd => quoted_core hn hxd ?hen ?he ?H ?hw ?hl)) ?B ?F ?X ?N ?T ?K ?D ?U ?_; (case B => k_asm); (case F => k_asm); (case X => k_asm); (case N => k_asm); (case T => k_asm); (case K => first | exact rfl | assumption); (case hx => k_mem); (case hU => k_updF); (case H => assumption); (case hen => decide +kernel); (case he => (first | assumption | exact Or.inl rfl)); (case hw => assumption); (case hl => assumption); (case D => ktr_room); (case U => ktr_units)); intro r9 h9 tk9 n9 F9 N9 P9; obtain ⟨o9, e1, P9⟩ := P9; obtain ⟨t9, t9', e2, e3, H9⟩ := P9; subst e1 e2 e3; (try k_sweep); (try dsimp only at N9); (try dsimp only)))

set_option maxHeartbeats 8000000 in
theorem read_none {w : World} {x dx : Addr} {tx : Str} {tt t1 t2 : Tok} {h1 h2 : Int} {a0 : Int} {ta : Tok} {nw : List (Addr × Obj)} (hn : ∀ p ∈ nw, p.1 ≠ dx) (hxd : @Ne Nat x dx) {r : List Nat}  (H : At tx a0 (110 :: 111 :: 110 :: 101 :: r)) (hS : Stop r) (hlen : tx.length ≤ 1000) :
    Tell w 205 [.ref x] 30 300 ((x, instObj 147 dx) :: (dx, cd h1 h2 t1 t2 tt tx a0 ta) :: nw) (fun v nw' => readPost x dx h1 h2 t1 t2 tt tx nw .none r v nw') := by
  w_top off
  unfold Tell
  k_fill
  intro p loose mean mg mb dp un gd cn cs a ccd cl outer A₀ base h₀ L m s Q E B F X N T hk hdp hun hret
  have h0 := H.ge
  have n1 : ¬ (Str.ofString "\"").cps.toList <+: 110 :: 111 :: 110 :: 101 :: r := by rw [cps1]; exact no1 (by decide)
  have n2 : ¬ (Str.ofString "[").cps.toList <+: 110 :: 111 :: 110 :: 101 :: r := by rw [cps2]; exact no1 (by decide)
  have H' : At tx a0 ([110, 111, 110, 101] ++ r) := H
  have hr : ∀ c l, r = c :: l → c ∉ ([97, 98, 99, 100, 101, 102, 103, 104, 105, 106, 107, 108, 109, 110, 111, 112, 113, 114, 115, 116, 117, 118, 119, 120, 121, 122, 65, 66, 67, 68, 69, 70, 71, 72, 73, 74, 75, 76, 77, 78, 79, 80, 81, 82, 83, 84, 85, 86, 87, 88, 89, 90, 95, 48, 49, 50, 51, 52, 53, 54, 55, 56, 57] : List Nat) := fun c l e => by rcases hS c l e with h | h <;> subst h <;> decide
  have b1 : ((⟨#[110, 111, 110, 101]⟩ : Str) == Str.ofString "none") = true := by decide +kernel
  refine wpAny_call ?_
  k_dflt walk_at "mine_enter"
  k_steps
  all_goals first
    | exact hret _ _ _ _ (by k_asm) (by k_asm) ⟨[], _, _, rfl, .none, List.forall_mem_nil _, by k_asm⟩
    | trace_state

set_option maxHeartbeats 8000000 in
theorem read_str {w : World} {x dx : Addr} {tx : Str} {tt t1 t2 : Tok} {h1 h2 : Int} {a0 : Int} {ta : Tok} {nw : List (Addr × Obj)} (hn : ∀ p ∈ nw, p.1 ≠ dx) (hxd : @Ne Nat x dx) {r : List Nat} {xv : Str} (hW : xv.cps.size ≤ 6) (H : At tx a0 (34 :: (escL 34 xv.cps.toList ++ 34 :: r))) (hS : Stop r) (hlen : tx.length ≤ 1000) :
    Tell w 205 [.ref x] 30 300 ((x, instObj 147 dx) :: (dx, cd h1 h2 t1 t2 tt tx a0 ta) :: nw) (fun v nw' => readPost x dx h1 h2 t1 t2 tt tx nw (.str xv) r v nw') := by
  w_top off
  unfold Tell
  k_fill
  intro p loose mean mg mb dp un gd cn cs a ccd cl outer A₀ base h₀ L m s Q E B F X N T hk hdp hun hret
  have h0 := H.ge
  have hW2 : xv.cps.toList.length ≤ 6 := by simpa using hW
  have H' : At tx a0 ((Str.ofString "\"").cps.toList ++ (escL 34 xv.cps.toList ++ 34 :: r)) := by rw [cps1]; exact H
  refine wpAny_call ?_
  k_dflt walk_at "mine_enter"
  k_steps
  all_goals first
    | exact hret _ _ _ _ (by k_asm) (by k_asm) ⟨[], _, _, rfl, (by rw [Array.toArray_toList]; exact DatIn.str _ _), List.forall_mem_nil _, by k_asm⟩
    | trace_state

set_option maxHeartbeats 8000000 in
theorem read_nat {w : World} {x dx : Addr} {tx : Str} {tt t1 t2 : Tok} {h1 h2 : Int} {a0 : Int} {ta : Tok} {nw : List (Addr × Obj)} (hn : ∀ p ∈ nw, p.1 ≠ dx) (hxd : @Ne Nat x dx) {r : List Nat} {mv : Nat} (hm : mv < 10 ^ 12) (H : At tx a0 (numL mv ++ r)) (hS : Stop r) (hlen : tx.length ≤ 1000) :
    Tell w 205 [.ref x] 30 300 ((x, instObj 147 dx) :: (dx, cd h1 h2 t1 t2 tt tx a0 ta) :: nw) (fun v nw' => readPost x dx h1 h2 t1 t2 tt tx nw (.int (mv : Int)) r v nw') := by
  w_top off
  unfold Tell
  k_fill
  intro p loose mean mg mb dp un gd cn cs a ccd cl outer A₀ base h₀ L m s Q E B F X N T hk hdp hun hret
  have h0 := H.ge
  obtain ⟨c, l, e, c1, c2⟩ := numL_head mv
  have H1 := H
  have n1 : ¬ (Str.ofString "\"").cps.toList <+: c :: (l ++ r) := by rw [cps1]; exact no1 (by omega)
  have n2 : ¬ (Str.ofString "[").cps.toList <+: c :: (l ++ r) := by rw [cps2]; exact no1 (by omega)
  have n3 : ¬ (Str.ofString "-").cps.toList <+: c :: (l ++ r) := by rw [cps5]; exact no1 (by omega)
  rw [e, List.cons_append] at H1
  have hu : ∀ c ∈ numL mv, c ∈ ([48, 49, 50, 51, 52, 53, 54, 55, 56, 57] : List Nat) := fun c hc => by have := numL_dig mv c hc; simp; omega
  have hr : ∀ c l, r = c :: l → c ∉ ([48, 49, 50, 51, 52, 53, 54, 55, 56, 57] : List Nat) := fun c l e => by rcases hS c l e with h | h <;> subst h <;> decide
  have hI : PySem.intText? ⟨(numL mv).toArray⟩ = some (mv : Int) := numL_text hm
  have hL := numL_len hm
  have hl2 : (⟨(numL mv).toArray⟩ : Str).length ≤ 20 := by rw [show (⟨(numL mv).toArray⟩ : Str).length = (numL mv).length from mk_len _]; omega
  have hne : ((⟨(numL mv).toArray⟩ : Str) == Str.ofString "") = false := by rw [show Str.ofString "" = (⟨#[]⟩ : Str) by decide +kernel]; simp [numL_ne mv]
  have b1 : ((⟨#[c]⟩ : Str) == Str.ofString "n") = false := by rw [show Str.ofString "n" = (⟨#[110]⟩ : Str) by decide +kernel]; simp; omega
  refine wpAny_call ?_
  k_dflt walk_at "mine_enter"
  k_steps
  all_goals first
    | exact hret _ _ _ _ (by k_asm) (by k_asm) ⟨[], _, _, rfl, DatIn.int _ _, List.forall_mem_nil _, by k_asm⟩
    | trace_state

set_option maxHeartbeats 8000000 in
theorem read_neg {w : World} {x dx : Addr} {tx : Str} {tt t1 t2 : Tok} {h1 h2 : Int} {a0 : Int} {ta : Tok} {nw : List (Addr × Obj)} (hn : ∀ p ∈ nw, p.1 ≠ dx) (hxd : @Ne Nat x dx) {r : List Nat} {mv : Nat} (hm : mv < 10 ^ 12) (H : At tx a0 (45 :: (numL mv ++ r))) (hS : Stop r) (hlen : tx.length ≤ 1000) :
    Tell w 205 [.ref x] 30 300 ((x, instObj 147 dx) :: (dx, cd h1 h2 t1 t2 tt tx a0 ta) :: nw) (fun v nw' => readPost x dx h1 h2 t1 t2 tt tx nw (.int (-(mv : Int))) r v nw') := by
  w_top off
  unfold Tell
  k_fill
  intro p loose mean mg mb dp un gd cn cs a ccd cl outer A₀ base h₀ L m s Q E B F X N T hk hdp hun hret
  have h0 := H.ge
  have n1 : ¬ (Str.ofString "\"").cps.toList <+: 45 :: (numL mv ++ r) := by rw [cps1]; exact no1 (by omega)
  have n2 : ¬ (Str.ofString "[").cps.toList <+: 45 :: (numL mv ++ r) := by rw [cps2]; exact no1 (by omega)
  have H' : At tx a0 ((Str.ofString "-").cps.toList ++ (numL mv ++ r)) := by rw [cps5]; exact H
  have H1 := H
  have hu : ∀ c ∈ numL mv, c ∈ ([48, 49, 50, 51, 52, 53, 54, 55, 56, 57] : List Nat) := fun c hc => by have := numL_dig mv c hc; simp; omega
  have hr : ∀ c l, r = c :: l → c ∉ ([48, 49, 50, 51, 52, 53, 54, 55, 56, 57] : List Nat) := fun c l e => by rcases hS c l e with h | h <;> subst h <;> decide
  have hI : PySem.intText? ⟨(numL mv).toArray⟩ = some (mv : Int) := numL_text hm
  have hL := numL_len hm
  have hl2 : (⟨(numL mv).toArray⟩ : Str).length ≤ 20 := by rw [show (⟨(numL mv).toArray⟩ : Str).length = (numL mv).length from mk_len _]; omega
  have hne : ((⟨(numL mv).toArray⟩ : Str) == Str.ofString "") = false := by rw [show Str.ofString "" = (⟨#[]⟩ : Str) by decide +kernel]; simp [numL_ne mv]
  refine wpAny_call ?_
  k_dflt walk_at "mine_enter"
  k_steps
  all_goals first
    | exact hret _ _ _ _ (by k_asm) (by k_asm) ⟨[], _, _, rfl, DatIn.int _ _, List.forall_mem_nil _, by k_asm⟩
    | trace_state
end Mine
end
/-! C10 -/
section
open PySem PySem.W PySem.Calls PyProof.Rows
set_option Elab.async false
set_option maxRecDepth 100000
namespace Mine
local macro_rules | `(tactic| walk_at "mine_pad") => `(tactic| fail)
local macro_rules | `(tactic| walk_at "call builtin:list.append") => `(tactic| (k_here; (with_reducible show wpAny _ _ (call (Value.builtin _) [Value.ref _, _]) _ _ _); k_dflt (refine' append_K ?k1 ?k2 ?k3 ?_ ?z; (case k1 => k_asm); (case k2 => k_asm); (case k3 => k_upd); (case z => assumption); k_whole); intro h' F' N'; (try k_sweep)))
local macro_rules | `(tactic| walk_at "truthy ref") => `(tactic| (k_here; (with_reducible show wpAny _ _ (truthy (Value.ref _)) _ _ _); k_dflt (refine' truthy_at ?N ?m ?b ?f ?_; (case N => k_asm); (case m => k_mem); (case b => exact rfl); (case f => assumption)); intro tk9))
local macro_rules | `(tactic| walk_at "call ref") => `(tactic| (k_here; (with_reducible show wpAny _ _ (call (Value.ref 205) _) _ _ _); refine Halt.mk ?_))
local macro_rules | `(tactic| walk_at "call ref") => `(tactic| (k_here; (with_reducible show wpAny _ _ (call (Value.ref 44) _) _ _ _); k_dflt (refine' Tell.use (done_tell ?hx ?hd ?H ?hl ) ?B ?F ?X ?N ?T ?K ?D ?U ?_; (case B => k_asm); (case F => k_asm); (case X => k_asm); (case N => k_asm); (case T => k_asm); (case K => first | exact rfl | assumption); (case hx => k_mem); (case hd => k_mem); (case H => (first | assumption | walk_at "mine_at")); (case hl => assumption); (case D => ktr_room); (case U => ktr_units)); intro r9 h9 tk9 n9 F9 N9 P9; obtain ⟨e1, e2⟩ := P9; subst e1; (first | subst e2 | (obtain ⟨t9, e2⟩ := e2; subst e2)); (try k_sweep); (try simp only [List.cons_append, List.nil_append, hdS, reduceCtorEq, decide_true, decide_false, eq_self]); (try dsimp only)))
local macro_rules | `(tactic| walk_at "call ref") => `(tactic| (k_here; (with_reducible show wpAny _ _ (call (Value.ref 52) _) _ _ _); k_dflt (refine' Tell.use (peek_tell ?hx ?hd ?H ?hl ) ?B ?F ?X ?N ?T ?K ?D ?U ?_; (case B => k_asm); (case F => k_asm); (case X => k_asm); (case N => k_asm); (case T => k_asm); (case K => first | exact rfl | assumption); (case hx => k_mem); (case hd => k_mem); (case H => (first | assumption | walk_at "mine_at")); (case hl => assumption); (case D => ktr_room); (case U => ktr_units)); intro r9 h9 tk9 n9 F9 N9 P9; obtain ⟨e1, e2⟩ := P9; subst e1; (first | subst e2 | (obtain ⟨t9, e2⟩ := e2; subst e2)); (try k_sweep); (try simp only [List.cons_append, List.nil_append, hdS, reduceCtorEq, decide_true, decide_false, eq_self]); (try dsimp only)))
local macro_rules | `(tactic| walk_at "call ref") => `(tactic| (k_here; (with_reducible show wpAny _ _ (call (Value.ref 73) _) _ _ _); k_dflt (refine' Tell.use (upd_tell ?hx ?hU cd_ne (fun rest hn hxd => skip_core hn hxd ?H ?hl ?hw)) ?B ?F ?X ?N ?T ?K ?D ?U ?_; (case B => k_asm); (case F => k_asm); (case X => k_asm); (case N => k_asm); (case T => k_asm); (case K => first | exact rfl | assumption); (case hx => k_mem); (case hU => k_updF); (case H => assumption); (case hl => assumption); (case hw => decide); (case D => ktr_room); (case U => ktr_units)); intro r9 h9 tk9 n9 F9 N9 P9; obtain ⟨o9, e1, P9⟩ := P9; obtain ⟨t9, t9', e2, e3, H9⟩ := P9; subst e1 e2 e3; (try k_sweep); (try dsimp only at N9); (try dsimp only)))
local macro_rules | `(tactic| walk_at "call ref") => `(tactic| (k_here; (with_reducible show wpAny _ _ (call (Value.ref 73) _) _ _ _); k_dflt (refine' Tell.use (skipno_tell ?hx ?hd ?H ?hl ?hno ?hw) ?B ?F ?X ?N ?T ?K ?D ?U ?_; (case B => k_asm); (case F => k_asm); (case X => k_asm); (case N => k_asm); (case T => k_asm); (case K => first | exact rfl | assumption); (case hx => k_mem); (case hd => k_mem); (case H => (first | assumption | walk_at "mine_at")); (case hl => assumption); (case hno => assumption); (case hw => decide); (case D => ktr_room); (case U => ktr_units)); intro r9 h9 tk9 n9 F9 N9 P9; obtain ⟨e1, e2⟩ := P9; subst e1; (first | subst e2 | (obtain ⟨t9, e2⟩ := e2; subst e2)); (try k_sweep); (try simp only [List.cons_append, List.nil_append, hdS, reduceCtorEq, decide_true, decide_false, eq_self]); (try dsimp only)))

def ReadIH (w : World) (x dx : Addr) (h1 h2 : Int) (t1 t2 tt : Tok) (tx : Str) (k : Nat) : Prop :=
  ∀ (d : Dat) (a0 : Int) (ta : Tok) (nw : List (Addr × Obj)) (r : List Nat), ValOk k d → (∀ p ∈ nw, p.1 ≠ dx) → @Ne Nat x dx → At tx a0 (showD d ++ r) → Stop r → tx.length ≤ 1000 →
    Tell w 205 [.ref x] (30 + 10 * k) (300 + 20 * k) ((x, instObj 147 dx) :: (dx, cd h1 h2 t1 t2 tt tx a0 ta) :: nw) (fun v nw' => readPost x dx h1 h2 t1 t2 tt tx nw d r v nw')
def moreL (ds : List Dat) (r : List Nat) : List Nat := ((ds.map showD).map ([44, 32] ++ ·)).flatten ++ 93 :: r
theorem moreL_cons (d : Dat) (ds : List Dat) (r : List Nat) : moreL (d :: ds) r = 44 :: 32 :: (showD d ++ moreL ds r) := by simp [moreL]
theorem moreL_head (ds : List Dat) (r : List Nat) : ∃ c l, moreL ds r = c :: l ∧ (c = 44 ∨ c = 93) := by
  cases ds with
  | nil => exact ⟨_, _, rfl, .inr rfl⟩
  | cons d ds => rw [moreL_cons]; exact ⟨_, _, rfl, .inl rfl⟩
theorem joinL_more (d : Dat) (ds : List Dat) (r : List Nat) : joinL [44, 32] ((d :: ds).map showD) ++ 93 :: r = showD d ++ moreL ds r := by
  rw [List.map_cons, joinL_cons, moreL, List.append_assoc]
def Far (x dx l : Addr) (nw tl : List (Addr × Obj)) : Prop := ∀ q ∈ tl, @Ne Nat q.1 l ∧ @Ne Nat q.1 x ∧ @Ne Nat q.1 dx ∧ ∀ p ∈ nw, @Ne Nat p.1 q.1
structure RState where
  done : List Dat
  left : List Dat
  tl : List (Addr × Obj)
  vs : List Value
  n : Nat
  a : Int
  ta : Tok

set_option maxHeartbeats 8000000 in
theorem read_list {w : World} {x dx : Addr} {tx : Str} {tt t1 t2 : Tok} {h1 h2 : Int} {a0 : Int} {ta : Tok} {nw : List (Addr × Obj)} (hn : ∀ p ∈ nw, p.1 ≠ dx) (hxd : @Ne Nat x dx) {k : Nat} {ds : List Dat} {r : List Nat} (IH : ReadIH w x dx h1 h2 t1 t2 tt tx k) (hv : ValOk (k + 1) (.list ds)) (H : At tx a0 (91 :: (joinL [44, 32] (ds.map showD) ++ 93 :: r))) (hS : Stop r) (hlen : tx.length ≤ 1000) :
    Tell w 205 [.ref x] (30 + 10 * (k + 1)) (300 + 20 * (k + 1)) ((x, instObj 147 dx) :: (dx, cd h1 h2 t1 t2 tt tx a0 ta) :: nw) (fun v nw' => readPost x dx h1 h2 t1 t2 tt tx nw (.list ds) r v nw') := by
  w_top off
  unfold Tell
  k_fill
  intro p loose mean mg mb dp un gd cn cs a ccd cl outer A₀ base h₀ L m s Q E B F X N T hk hdp hun hret
  have h0 := H.ge
  have H' : At tx a0 ((Str.ofString "[").cps.toList ++ (joinL [44, 32] (ds.map showD) ++ 93 :: r)) := by rw [cps2]; exact H
  have n1 : ¬ (Str.ofString "\"").cps.toList <+: (Str.ofString "[").cps.toList ++ (joinL [44, 32] (ds.map showD) ++ 93 :: r) := by rw [cps1, cps2]; exact no1 (by omega)
  refine wpAny_call ?_
  k_dflt walk_at "mine_enter"
  k_steps
  unfold Halt
  (rename (_ ∧ _ ∧ AllLt _ _) => l1)
  obtain ⟨lx, ld, ln⟩ := l1
  rename_i lst h91 h92 F91 N91
  k_dflt refine' while_map (σ := RState) (fun c => (lst, listOf c.vs.toArray c.n) :: (x, instObj 147 dx) :: (dx, cd h1 h2 t1 t2 tt tx c.a c.ta) :: (c.tl ++ nw)) (fun _ => _) (fun c => c.left.length)
    (fun c => ds = c.done ++ c.left ∧ DatAll c.tl c.vs c.done ∧ Far x dx lst nw c.tl ∧ At tx c.a (if c.done = [] then joinL [44, 32] (c.left.map showD) ++ 93 :: r else moreL c.left r)) ⟨[], ds, [], [], 0, _, _⟩ (by k_asm) (by k_asm) ⟨rfl, .nil, List.forall_mem_nil _, by rw [if_pos rfl]; k_asm⟩ ?turn
  rintro ⟨ds1, ds2, tl, vs, n, a1, tq⟩ h₁ tk₁ F₁ N₁ ⟨e1, e2, e3, H₁⟩
  dsimp only at F₁ N₁ e1 e2 e3 H₁
  k_sweep
  have hk : ∀ p ∈ tl ++ nw, @Ne Nat p.1 lst := fun p hp => (List.mem_append.mp hp).elim (fun q => (e3 p q).1) (allLt_ne ln p)
  have hkd : ∀ p ∈ tl ++ nw, p.1 ≠ dx := fun p hp => (List.mem_append.mp hp).elim (fun q => (e3 p q).2.2.1) (hn p)
  have hv1 := hv.1
  have hlv := e2.length
  have hsz : vs.toArray.size ≤ sizeLine := by
    rw [List.size_toArray, hlv, sizeLine_eq]
    have := congrArg List.length e1
    rw [List.length_append] at this
    omega
  cases ds2 with
  | nil =>
    have H₁ : At tx a1 ((Str.ofString "]").cps.toList ++ r) := by
      rw [cps3]
      cases ds1 with
      | nil => simpa [joinL] using H₁
      | cons d1 ds1 => simpa [moreL] using H₁
    k_steps
    rw [List.append_nil] at e1
    subst e1
    exact hret _ _ _ _ (by k_asm) (news_sub (by k_asm) perm5) ⟨(lst, listOf vs.toArray n) :: tl, _, _, rfl, .list List.mem_cons_self (e2.mono fun _ h => List.mem_cons_of_mem _ h), List.forall_mem_cons.mpr ⟨⟨Nat.ne_of_gt lx, Nat.ne_of_gt ld, allLt_ne ln⟩, fun q hq => (e3 q hq).2⟩, by k_asm⟩
  | cons d ds2 =>
    obtain ⟨c2, l2, g1, g2⟩ := moreL_head ds2 r
    obtain ⟨c1, l1, g3, g4, g5⟩ := show_head (hv.2 d (by simp [e1]))
    cases ds1 with
    | nil =>
      cases e2
      rw [if_pos rfl, joinL_more, g1] at H₁
      have n2 : ¬ (Str.ofString "]").cps.toList <+: showD d ++ c2 :: l2 := by rw [cps3, g3]; exact no1 (Ne.symm g4)
      k_steps
      unfold Halt
      (rename Fr _ _ _ _ => F₂)
      (rename News _ _ _ _ => N₂)
      refine Tell.use (Tell.sub (IH d _ _ _ (c2 :: l2) (hv.2 d (by simp [e1])) (List.forall_mem_cons.mpr ⟨Nat.ne_of_gt ld, hkd⟩) hxd (by assumption) (fun c l q => by cases q; exact g2) hlen) perm3) (by k_asm) F₂ (by k_asm) N₂ (by k_asm) rfl (by ktr_room) (by ktr_units) ?_
      rintro v h9 tk9 n9 F9 N9 ⟨tl2, a2, ta2, rfl, e5, e6, H₃⟩
      replace N9 := news_sub N9 perm4
      have hk2 : ∀ p ∈ (tl2 ++ tl) ++ nw, @Ne Nat p.1 lst := fun p hp => (List.mem_append.mp hp).elim (fun q => (List.mem_append.mp q).elim (fun q => Ne.symm ((e6 p q).2.2 _ List.mem_cons_self)) fun q => (e3 p q).1) (allLt_ne ln p)
      clear N₂ F₂
      k_sweep
      k_steps
      k_dflt refine' WNext.intro ⟨[] ++ [d], ds2, tl2 ++ tl, [] ++ [v], n + 1, _, _⟩ ?f ?n ?l ?i
      (case f => k_asm)
      (case n => first | k_asm | (dsimp only; rw [← List.push_toArray]; k_asm))
      (case l => simp)
      (case i =>
        refine ⟨by simp [e1], (DatAll.nil.mono fun _ h => List.mem_append_right _ h).append (.one (e5.mono fun _ h => List.mem_append_left _ h)), ?_, ?_⟩
        · intro q hq
          rcases List.mem_append.mp hq with hq | hq
          · exact ⟨Ne.symm ((e6 q hq).2.2 _ List.mem_cons_self), (e6 q hq).1, (e6 q hq).2.1, fun p hp => (e6 q hq).2.2 p (List.mem_cons_of_mem _ (List.mem_append_right _ hp))⟩
          · exact e3 q hq
        · rw [if_neg (by simp), g1]; k_asm)
    | cons d1 ds1 =>
      cases e2 with
      | @cons v1 vs1 _ _ e2 e2' =>
        have b1 : (v1 :: vs1).toArray.isEmpty = false := by simp
        rw [if_neg (by simp), moreL_cons, g1] at H₁
        have n2 : ¬ (Str.ofString "]").cps.toList <+: 44 :: 32 :: (showD d ++ c2 :: l2) := by rw [cps3]; exact no1 (by omega)
        have H₂ : At tx a1 ((Str.ofString ", ").cps.toList ++ (showD d ++ c2 :: l2)) := by rw [cps4]; exact H₁
        have H₁ := H₁
        (rename DatIn _ _ _ => e2)
        k_steps
        unfold Halt
        (rename Fr _ _ _ _ => F₂)
        (rename News _ _ _ _ => N₂)
        refine Tell.use (Tell.sub (IH d _ _ _ (c2 :: l2) (hv.2 d (by simp [e1])) (List.forall_mem_cons.mpr ⟨Nat.ne_of_gt ld, hkd⟩) hxd (by assumption) (fun c l q => by cases q; exact g2) hlen) perm3) (by k_asm) F₂ (by k_asm) N₂ (by k_asm) rfl (by ktr_room) (by ktr_units) ?_
        rintro v h9 tk9 n9 F9 N9 ⟨tl2, a2, ta2, rfl, e5, e6, H₃⟩
        replace N9 := news_sub N9 perm4
        have hk2 : ∀ p ∈ (tl2 ++ tl) ++ nw, @Ne Nat p.1 lst := fun p hp => (List.mem_append.mp hp).elim (fun q => (List.mem_append.mp q).elim (fun q => Ne.symm ((e6 p q).2.2 _ List.mem_cons_self)) fun q => (e3 p q).1) (allLt_ne ln p)
        clear N₂ F₂
        k_sweep
        k_steps
        k_dflt refine' WNext.intro ⟨(d1 :: ds1) ++ [d], ds2, tl2 ++ tl, (_ :: _) ++ [v], n + 1, _, _⟩ ?f ?n ?l ?i
        (case f => k_asm)
        (case n => first | k_asm | (dsimp only; rw [← List.push_toArray]; k_asm))
        (case l => simp)
        (case i =>
          refine ⟨by simp [e1], ((DatAll.cons e2 e2').mono fun _ h => List.mem_append_right _ h).append (.one (e5.mono fun _ h => List.mem_append_left _ h)), ?_, ?_⟩
          · intro q hq
            rcases List.mem_append.mp hq with hq | hq
            · exact ⟨Ne.symm ((e6 q hq).2.2 _ List.mem_cons_self), (e6 q hq).1, (e6 q hq).2.1, fun p hp => (e6 q hq).2.2 p (List.mem_cons_of_mem _ (List.mem_append_right _ hp))⟩
            · exact e3 q hq
          · rw [if_neg (by simp), g1]; k_asm)
end Mine
end
/-! C11 -/
section
open PySem PySem.W PySem.Calls PyProof.Rows
set_option Elab.async false
namespace Mine
theorem read_leaf {w : World} {x dx : Addr} {h1 h2 : Int} {t1 t2 tt : Tok} {tx : Str} {k : Nat} {d : Dat} {a0 : Int} {ta : Tok} {nw : List (Addr × Obj)} {r : List Nat} (hnl : ∀ ds, d ≠ .list ds) (hv : ValOk k d) (hn : ∀ p ∈ nw, p.1 ≠ dx) (hxd : @Ne Nat x dx)
    (H : At tx a0 (showD d ++ r)) (hS : Stop r) (hlen : tx.length ≤ 1000) :
    Tell w 205 [.ref x] 30 300 ((x, instObj 147 dx) :: (dx, cd h1 h2 t1 t2 tt tx a0 ta) :: nw) (fun v nw' => readPost x dx h1 h2 t1 t2 tt tx nw d r v nw') := by
  cases d with
  | none => exact read_none hn hxd H hS hlen
  | int i =>
    have hv' : -1000 ≤ i ∧ i < 10 ^ 12 := by cases k <;> exact hv
    by_cases hi : i < 0
    · have e : showD (.int i) ++ r = 45 :: (numL i.natAbs ++ r) := by rw [showD, intL, if_pos hi, List.cons_append]
      rw [e] at H
      have := read_neg (w := w) (h1 := h1) (h2 := h2) (t1 := t1) (t2 := t2) (tt := tt) (ta := ta) hn hxd (mv := i.natAbs) (by omega) H hS hlen
      rwa [show -((i.natAbs : Nat) : Int) = i by omega] at this
    · have e : showD (.int i) ++ r = numL i.natAbs ++ r := by rw [showD, intL, if_neg hi]
      rw [e] at H
      have := read_nat (w := w) (h1 := h1) (h2 := h2) (t1 := t1) (t2 := t2) (tt := tt) (ta := ta) hn hxd (mv := i.natAbs) (by omega) H hS hlen
      rwa [show ((i.natAbs : Nat) : Int) = i by omega] at this
  | str xv =>
    have hv' : WordOk xv := by cases k <;> exact hv
    have e : showD (.str xv) ++ r = 34 :: (escL 34 xv.cps.toList ++ 34 :: r) := by rw [showD]; simp
    rw [e] at H
    exact read_str hn hxd hv'.1 H hS hlen
  | list ds => exact absurd rfl (hnl ds)
  | _ => cases k <;> simp [ValOk] at hv
theorem read_all (w : World) (x dx : Addr) (h1 h2 : Int) (t1 t2 tt : Tok) (tx : Str) : ∀ k, ReadIH w x dx h1 h2 t1 t2 tt tx k := by
  intro k
  induction k with
  | zero =>
    intro d a0 ta nw r hv hn hxd H hS hlen
    exact (read_leaf (fun ds e => by subst e; simp [ValOk] at hv) hv hn hxd H hS hlen).mono (fun _ _ q => q) (by omega) (by omega)
  | succ k ih =>
    intro d a0 ta nw r hv hn hxd H hS hlen
    by_cases hl : ∃ ds, d = .list ds
    · obtain ⟨ds, rfl⟩ := hl
      refine read_list hn hxd ih hv ?_ hS hlen
      have e : showD (.list ds) ++ r = 91 :: (joinL [44, 32] (ds.map showD) ++ 93 :: r) := by rw [showD, showDs_map]; simp
      rwa [e] at H
    · exact (read_leaf (fun ds e => hl ⟨ds, e⟩) hv hn hxd H hS hlen).mono (fun _ _ q => q) (by omega) (by omega)
end Mine
end
/-! D1 -/
section
open PySem PySem.W PySem.Calls PyProof.Rows
set_option Elab.async false
set_option maxRecDepth 100000
namespace Mine

theorem item_hex : ∀ k : Nat, k < 16 → Txt.item (Str.ofString "0123456789abcdef") (k : Int) = mk [hexd k] := by decide +kernel
theorem s_x : Str.ofString "\\x" = mk [92, 120] := by decide +kernel
theorem s_nl : Str.ofString "\n" = mk [10] := by decide +kernel
theorem s_tab : Str.ofString "\t" = mk [9] := by decide +kernel
theorem s_bs : Str.ofString "\\" = mk [92] := by decide +kernel
theorem s_bs2 : Str.ofString "\\\\" = mk [92, 92] := by decide +kernel
theorem mk_beq {a b : List Nat} (h : a ≠ b) : (mk a == mk b) = false := by
  rw [beq_eq_false_iff_ne]; intro e; apply h
  have := congrArg (fun z : Str => z.cps.toList) e
  simpa [mk] using this

set_option maxHeartbeats 8000000 in
theorem hex_tell {w : World} {nw : List (Addr × Obj)} {c : Nat} {t9 : Tok} (hc : c < 256) :
    Tell w 158 [.int (c : Int) t9] 3 30 (nw) (fun v nw' => nw' = nw ∧ ∃ t, v = .str (mk [92, 120, hexd (c / 16), hexd (c % 16)]) t) := by
  w_top off
  unfold Tell
  k_fill
  intro p loose mean mg mb dp un gd cn cs a ccd cl outer A₀ base h₀ L m s Q E B F X N T hk hdp hun hret
  refine wpAny_call ?_
  k_dflt walk_at "mine_enter"
  k_steps
  have e1 : ((c : Int).fdiv 16) = ((c / 16 : Nat) : Int) := by rw [Int.fdiv_eq_ediv_of_nonneg _ (by decide)]; omega
  have e2 : ((c : Int).fmod 16) = ((c % 16 : Nat) : Int) := by rw [Int.fmod_eq_emod_of_nonneg _ (by decide)]; omega
  rw [e1, e2, item_hex _ (by omega), item_hex _ (by omega), s_x, mk_append, mk_append]
  exact hret _ _ _ _ (by k_asm) (by k_asm) ⟨rfl, _, rfl⟩
local macro_rules | `(tactic| walk_at "call ref") => `(tactic| (k_here; (with_reducible show wpAny _ _ (call (Value.ref 158) _) _ _ _); k_dflt (refine' Tell.use (hex_tell ?hc) ?B ?F ?X ?N ?T ?K ?D ?U ?_; (case B => k_asm); (case F => k_asm); (case X => k_asm); (case N => k_asm); (case T => k_asm); (case K => first | exact rfl | assumption); (case hc => omega); (case D => ktr_room); (case U => ktr_units)); intro r9 h9 tk9 n9 F9 N9 P9; obtain ⟨e1, t9, e2⟩ := P9; subst e1 e2; (try k_sweep); (try dsimp only)))

set_option maxHeartbeats 8000000 in
theorem es_n {w : World} {nw : List (Addr × Obj)} {c e : Nat} {t8 t9 : Tok} (hc : c = 10) (he : e ≠ 10) :
    Tell w 165 [.str ⟨#[c]⟩ t8, .str ⟨#[e]⟩ t9] 6 60 (nw) (fun v nw' => nw' = nw ∧ ∃ t, v = .str (mk (escN e c)) t) := by
  w_top off
  unfold Tell
  k_fill
  intro p loose mean mg mb dp un gd cn cs a ccd cl outer A₀ base h₀ L m s Q E B F X N T hk hdp hun hret
  subst hc
  refine wpAny_call ?_
  k_dflt walk_at "mine_enter"
  k_steps
  all_goals first
    | exact hret _ _ _ _ (by k_asm) (by k_asm) ⟨rfl, _, rfl⟩
    | (rw [hq]; exact hret _ _ _ _ (by k_asm) (by k_asm) ⟨rfl, _, rfl⟩)
    | (exfalso; omega)
    | exact hret _ _ _ _ (by k_asm) (by k_asm) ⟨rfl, _, by rw [hq1 (by omega) (by omega)]⟩
    | exact hret _ _ _ _ (by k_asm) (by k_asm) ⟨rfl, _, by rw [hq2 (by omega)]⟩
    | trace_state

set_option maxHeartbeats 8000000 in
theorem es_t {w : World} {nw : List (Addr × Obj)} {c e : Nat} {t8 t9 : Tok} (hc : c = 9) (he : e ≠ 9) :
    Tell w 165 [.str ⟨#[c]⟩ t8, .str ⟨#[e]⟩ t9] 6 60 (nw) (fun v nw' => nw' = nw ∧ ∃ t, v = .str (mk (escN e c)) t) := by
  w_top off
  unfold Tell
  k_fill
  intro p loose mean mg mb dp un gd cn cs a ccd cl outer A₀ base h₀ L m s Q E B F X N T hk hdp hun hret
  subst hc
  refine wpAny_call ?_
  k_dflt walk_at "mine_enter"
  k_steps
  all_goals first
    | exact hret _ _ _ _ (by k_asm) (by k_asm) ⟨rfl, _, rfl⟩
    | (rw [hq]; exact hret _ _ _ _ (by k_asm) (by k_asm) ⟨rfl, _, rfl⟩)
    | (exfalso; omega)
    | exact hret _ _ _ _ (by k_asm) (by k_asm) ⟨rfl, _, by rw [hq1 (by omega) (by omega)]⟩
    | exact hret _ _ _ _ (by k_asm) (by k_asm) ⟨rfl, _, by rw [hq2 (by omega)]⟩
    | trace_state

set_option maxHeartbeats 8000000 in
theorem es_e {w : World} {nw : List (Addr × Obj)} {c e : Nat} {t8 t9 : Tok} (hc : c = e) (h1 : c ≠ 10) (h2 : c ≠ 9) :
    Tell w 165 [.str ⟨#[c]⟩ t8, .str ⟨#[e]⟩ t9] 6 60 (nw) (fun v nw' => nw' = nw ∧ ∃ t, v = .str (mk (escN e c)) t) := by
  w_top off
  unfold Tell
  k_fill
  intro p loose mean mg mb dp un gd cn cs a ccd cl outer A₀ base h₀ L m s Q E B F X N T hk hdp hun hret
  subst hc
  have b1 : ((⟨#[c]⟩ : Str) == Str.ofString "\n") = false := by rw [s_nl]; exact mk_beq (by simpa using h1)
  have b2 : ((⟨#[c]⟩ : Str) == Str.ofString "\t") = false := by rw [s_tab]; exact mk_beq (by simpa using h2)
  have m1 := found_yes (x := ⟨#[c]⟩) (c := c) (by simp)
  have hq : Str.ofString "\\" ++ (⟨#[c]⟩ : Str) = mk (escN c c) := by
    rw [s_bs, show (⟨#[c]⟩ : Str) = mk [c] from rfl, mk_append, escN, if_neg h1, if_neg h2, if_pos (.inl rfl)]; rfl
  refine wpAny_call ?_
  k_dflt walk_at "mine_enter"
  k_steps
  all_goals first
    | exact hret _ _ _ _ (by k_asm) (by k_asm) ⟨rfl, _, rfl⟩
    | (rw [hq]; exact hret _ _ _ _ (by k_asm) (by k_asm) ⟨rfl, _, rfl⟩)
    | (exfalso; omega)
    | exact hret _ _ _ _ (by k_asm) (by k_asm) ⟨rfl, _, by rw [hq1 (by omega) (by omega)]⟩
    | exact hret _ _ _ _ (by k_asm) (by k_asm) ⟨rfl, _, by rw [hq2 (by omega)]⟩
    | trace_state

set_option maxHeartbeats 8000000 in
theorem es_b {w : World} {nw : List (Addr × Obj)} {c e : Nat} {t8 t9 : Tok} (hc : c = 92) (he : c ≠ e) :
    Tell w 165 [.str ⟨#[c]⟩ t8, .str ⟨#[e]⟩ t9] 6 60 (nw) (fun v nw' => nw' = nw ∧ ∃ t, v = .str (mk (escN e c)) t) := by
  w_top off
  unfold Tell
  k_fill
  intro p loose mean mg mb dp un gd cn cs a ccd cl outer A₀ base h₀ L m s Q E B F X N T hk hdp hun hret
  subst hc
  have m1 := found_no (x := ⟨#[e]⟩) (c := 92) (by simp; exact he)
  have hq : Str.ofString "\\" ++ (⟨#[92]⟩ : Str) = mk (escN e 92) := by
    rw [s_bs, show (⟨#[92]⟩ : Str) = mk [92] from rfl, mk_append, escN, if_neg (by decide), if_neg (by decide), if_pos (.inr rfl)]; rfl
  refine wpAny_call ?_
  k_dflt walk_at "mine_enter"
  k_steps
  all_goals first
    | exact hret _ _ _ _ (by k_asm) (by k_asm) ⟨rfl, _, rfl⟩
    | (rw [hq]; exact hret _ _ _ _ (by k_asm) (by k_asm) ⟨rfl, _, rfl⟩)
    | (exfalso; omega)
    | exact hret _ _ _ _ (by k_asm) (by k_asm) ⟨rfl, _, by rw [hq1 (by omega) (by omega)]⟩
    | exact hret _ _ _ _ (by k_asm) (by k_asm) ⟨rfl, _, by rw [hq2 (by omega)]⟩
    | trace_state

set_option maxHeartbeats 8000000 in
theorem es_o {w : World} {nw : List (Addr × Obj)} {c e : Nat} {t8 t9 : Tok} (hlt : c < 100000) (h1 : c ≠ 10) (h2 : c ≠ 9) (h3 : c ≠ e) (h4 : c ≠ 92) :
    Tell w 165 [.str ⟨#[c]⟩ t8, .str ⟨#[e]⟩ t9] 6 60 (nw) (fun v nw' => nw' = nw ∧ ∃ t, v = .str (mk (escN e c)) t) := by
  w_top off
  unfold Tell
  k_fill
  intro p loose mean mg mb dp un gd cn cs a ccd cl outer A₀ base h₀ L m s Q E B F X N T hk hdp hun hret
  have b1 : ((⟨#[c]⟩ : Str) == Str.ofString "\n") = false := by rw [s_nl]; exact mk_beq (by simpa using h1)
  have b2 : ((⟨#[c]⟩ : Str) == Str.ofString "\t") = false := by rw [s_tab]; exact mk_beq (by simpa using h2)
  have b3 : ((⟨#[c]⟩ : Str) == Str.ofString "\\") = false := by rw [s_bs]; exact mk_beq (by simpa using h4)
  have m1 := found_no (x := ⟨#[e]⟩) (c := c) (by simp; exact h3)
  have hq1 : (c < 32 ∨ 126 < c) → c < 256 → mk (escN e c) = mk [92, 120, hexd (c / 16), hexd (c % 16)] := fun q1 q2 => by rw [escN, if_neg h1, if_neg h2, if_neg (fun q => q.elim h3 h4), if_pos ⟨q1, q2⟩]
  have hq2 : ¬ ((c < 32 ∨ 126 < c) ∧ c < 256) → mk (escN e c) = ⟨#[c]⟩ := fun q => by rw [escN, if_neg h1, if_neg h2, if_neg (fun q => q.elim h3 h4), if_neg q]; rfl
  refine wpAny_call ?_
  k_dflt walk_at "mine_enter"
  k_steps
  all_goals first
    | exact hret _ _ _ _ (by k_asm) (by k_asm) ⟨rfl, _, rfl⟩
    | (rw [hq]; exact hret _ _ _ _ (by k_asm) (by k_asm) ⟨rfl, _, rfl⟩)
    | (exfalso; omega)
    | exact hret _ _ _ _ (by k_asm) (by k_asm) ⟨rfl, _, by rw [hq1 (by omega) (by omega)]⟩
    | exact hret _ _ _ _ (by k_asm) (by k_asm) ⟨rfl, _, by rw [hq2 (by omega)]⟩
    | trace_state

theorem es_tell {w : World} {nw : List (Addr × Obj)} {c e : Nat} {t8 t9 : Tok} (he : Ends e) (hlt : c < 100000) :
    Tell w 165 [.str ⟨#[c]⟩ t8, .str ⟨#[e]⟩ t9] 6 60 nw (fun v nw' => nw' = nw ∧ ∃ t, v = .str (mk (escN e c)) t) := by
  have h10 : e ≠ 10 := by rcases he with h | h | h | h <;> omega
  have h9 : e ≠ 9 := by rcases he with h | h | h | h <;> omega
  by_cases h1 : c = 10
  · subst h1; exact es_n rfl h10
  · by_cases h2 : c = 9
    · subst h2; exact es_t rfl h9
    · by_cases h3 : c = e
      · exact es_e h3 h1 h2
      · by_cases h4 : c = 92
        · subst h4; exact es_b rfl h3
        · exact es_o hlt h1 h2 h3 h4
end Mine
end
/-! D2 -/
section
open PySem PySem.W PySem.Calls PyProof.Rows
set_option Elab.async false
set_option maxRecDepth 100000
namespace Mine
local macro_rules | `(tactic| walk_at "eval ListComp") => `(tactic| refine Halt.mk ?_)
local macro_rules | `(tactic| walk_at "call builtin:str.join") => `(tactic| (k_here; k_dflt (refine' join_at ?N ?m ?i ?t ?o ?r ?_; (case N => k_asm); (case m => k_mem); (case i => (first | rfl | assumption)); (case t => assumption); (case o => assumption); (case r => assumption)); intro t9 k9))
local macro_rules | `(tactic| walk_at "call ref") => `(tactic| (k_here; (with_reducible show wpAny _ _ (call (Value.ref 165) _) _ _ _); k_dflt (refine' Tell.use (es_tell ?he ?hc) ?B ?F ?X ?N ?T ?K ?D ?U ?_; (case B => k_asm); (case F => k_asm); (case X => k_asm); (case N => k_asm); (case T => k_asm); (case K => first | exact rfl | assumption); (case he => assumption); (case hc => assumption); (case D => ktr_room); (case U => ktr_units)); intro r9 h9 tk9 n9 F9 N9 P9; obtain ⟨e1, t9, e2⟩ := P9; subst e1 e2; (try k_sweep); (try dsimp only)))

set_option maxHeartbeats 8000000 in
theorem escaped_tell {w : World} {nw : List (Addr × Obj)} {tx : Str} {e : Nat} {t8 t9 : Tok} (he : Ends e) (hsz : tx.cps.size ≤ 6) (hb : ∀ c ∈ tx.cps.toList, c < 100000) :
    Tell w 170 [.str tx t8, .str ⟨#[e]⟩ t9] 9 90 (nw) (fun v nw' => nw' = nw ∧ ∃ t, v = .str (mk (escL e tx.cps.toList)) t) := by
  w_top off
  unfold Tell
  k_fill
  intro p loose mean mg mb dp un gd cn cs a ccd cl outer A₀ base h₀ L m s Q E B F X N T hk hdp hun hret
  refine wpAny_call ?_
  k_dflt walk_at "mine_enterC"
  k_steps
  unfold Halt
  k_dflt refine ListComp_S (F₀ := by k_asm) (by with_unfolding_all rfl) (by decide) (by rfl) (by decide) (by rfl) ?_
  k_steps
  refine ⟨_, _, _, rfl, rfl, by k_asm, by k_asm, by rw [sizeLine_eq]; omega, ?_⟩
  rintro s₂ ⟨h2, rfl⟩
  refine comp_str (fun c => mk (escN e c)) ?_ ?_
  · intro c t I oI C oC D m₂ ys h tk E' hc hC hx F₃ N₃ off ne
    have hlt := hb c hc
    k_steps
    exact LCg.CompEnd.intro (by k_asm) (by k_asm) _ (fun p hp => hp) off trivial ⟨rfl, _, rfl⟩
  · intro l hl D h tk F₃ N₃ o1
    have hs0 : Str.ofString "" = mk [] := by decide +kernel
    have hok : JoinOk (Str.ofString "") (tx.cps.toList.map fun c => mk (escN e c)) = true := joinOk_of (m := 6) (c := 4) (by simpa using hsz) (by simp [mk_len]; intro c _; exact (escN_len e c).2) (by rw [hs0, mk_len]; decide)
    have hj : Txt.join (Str.ofString "") (tx.cps.toList.map fun c => mk (escN e c)) = mk (escL e tx.cps.toList) := by rw [hs0]; exact join_esc e _
    k_steps
    exact hret _ _ _ _ (by k_asm) (news_tail (news_tail (by k_asm))) ⟨rfl, _, rfl⟩

theorem escaped_tell2 {w : World} {nw : List (Addr × Obj)} {tx en : Str} {e : Nat} {t8 t9 : Tok} (he : Ends e) (hen : en = ⟨#[e]⟩) (hsz : tx.cps.size ≤ 6) (hb : ∀ c ∈ tx.cps.toList, c < 100000) :
    Tell w 170 [.str tx t8, .str en t9] 9 90 nw (fun v nw' => nw' = nw ∧ ∃ t, v = .str (mk (escL e tx.cps.toList)) t) := by
  subst hen; exact escaped_tell he hsz hb
end Mine
end
/-! D3 -/
section
open PySem PySem.W PySem.Calls PyProof.Rows
set_option Elab.async false
set_option maxRecDepth 100000
namespace Mine
local macro_rules | `(tactic| walk_at "eval ListComp") => `(tactic| refine Halt.mk ?_)
local macro_rules | `(tactic| walk_at "call builtin:str.join") => `(tactic| (k_here; k_dflt (refine' join_at ?N ?m ?i ?t ?o ?r ?_; (case N => k_asm); (case m => k_mem); (case i => (first | rfl | assumption)); (case t => assumption); (case o => assumption); (case r => assumption)); intro t9 k9))
local macro_rules | `(tactic| walk_at "call ref") => `(tactic| (k_here; (with_reducible show wpAny _ _ (call (Value.ref 170) _) _ _ _); k_dflt (refine' Tell.use (escaped_tell2 ?he ?hen ?hz ?hb) ?B ?F ?X ?N ?T ?K ?D ?U ?_; (case B => k_asm); (case F => k_asm); (case X => k_asm); (case N => k_asm); (case T => k_asm); (case K => first | exact rfl | assumption); (case he => assumption); (case hen => (first | assumption | decide +kernel)); (case hz => assumption); (case hb => assumption); (case D => ktr_room); (case U => ktr_units)); intro r9 h9 tk9 n9 F9 N9 P9; obtain ⟨e1, t9, e2⟩ := P9; subst e1 e2; (try k_sweep); (try dsimp only)))
local macro_rules | `(tactic| walk_at "call ref") => `(tactic| (k_here; (with_reducible show wpAny _ _ (call (Value.ref 175) _) _ _ _); refine Halt.mk ?_))
local macro_rules | `(tactic| walk_at "call builtin:isinstance") => `(tactic| (k_here; (with_reducible show wpAny _ _ (call (Value.builtin "isinstance") [Value.ref _, Value.ref _]) _ _ _); k_dflt (refine' isi_list ?N ?m ?p ?_; (case N => k_asm); (case m => first | k_mem | (refine List.mem_cons_of_mem _ ?_; assumption)); (case p => first | k_mem | exact List.mem_cons_self)); intro tk9))

theorem s_q : Str.ofString "\"" = mk [34] := by decide +kernel
theorem s_lb : Str.ofString "[" = mk [91] := by decide +kernel
theorem s_rb : Str.ofString "]" = mk [93] := by decide +kernel
theorem s_none : Str.ofString "none" = mk [110, 111, 110, 101] := by decide +kernel
theorem s_sep : Str.ofString ", " = mk [44, 32] := by decide +kernel

set_option maxHeartbeats 8000000 in
theorem show_none {w : World} {nw : List (Addr × Obj)} :
    Tell w 175 [.none] 20 200 (nw) (fun v nw' => nw' = nw ∧ ∃ t, v = .str (mk (showD .none)) t) := by
  w_top off
  unfold Tell
  k_fill
  intro p loose mean mg mb dp un gd cn cs a ccd cl outer A₀ base h₀ L m s Q E B F X N T hk hdp hun hret
  refine wpAny_call ?_
  k_dflt walk_at "mine_enter"
  k_steps
  exact hret _ _ _ _ (by k_asm) (by k_asm) ⟨rfl, _, rfl⟩

set_option maxHeartbeats 8000000 in
theorem show_int {w : World} {nw : List (Addr × Obj)} {i : Int} {t9 : Tok} (h1 : -1000 ≤ i) (h2 : i < 10 ^ 12) :
    Tell w 175 [.int i t9] 20 200 (nw) (fun v nw' => nw' = nw ∧ ∃ t, v = .str (mk (showD (.int i))) t) := by
  w_top off
  unfold Tell
  k_fill
  intro p loose mean mg mb dp un gd cn cs a ccd cl outer A₀ base h₀ L m s Q E B F X N T hk hdp hun hret
  refine wpAny_call ?_
  k_dflt walk_at "mine_enter"
  k_steps
  rw [text_int]
  exact hret _ _ _ _ (by k_asm) (news_tail (by k_asm)) ⟨rfl, _, rfl⟩

set_option maxHeartbeats 8000000 in
theorem show_str {w : World} {nw : List (Addr × Obj)} {xv : Str} {t9 : Tok} (hz : xv.cps.size ≤ 6) (hb : ∀ c ∈ xv.cps.toList, c < 100000) :
    Tell w 175 [.str xv t9] 20 200 (nw) (fun v nw' => nw' = nw ∧ ∃ t, v = .str (mk (showD (.str xv))) t) := by
  w_top off
  unfold Tell
  k_fill
  intro p loose mean mg mb dp un gd cn cs a ccd cl outer A₀ base h₀ L m s Q E B F X N T hk hdp hun hret
  have he : Ends 34 := .inl rfl
  have hl : (mk (escL 34 xv.cps.toList)).length ≤ 24 := by rw [mk_len]; have := escL_len 34 xv.cps.toList; have : xv.cps.toList.length = xv.cps.size := Array.length_toList; omega
  refine wpAny_call ?_
  k_dflt walk_at "mine_enter"
  k_steps
  rw [s_q, mk_append, mk_append]
  exact hret _ _ _ _ (by k_asm) (by k_asm) ⟨rfl, _, rfl⟩

def ShowIH (w : World) (k : Nat) : Prop :=
  ∀ (d : Dat) (v : Value) (nw : List (Addr × Obj)), ValOk k d → DatIn nw v d → Tell w 175 [v] (20 + 10 * k) (200 + 20 * k) nw (fun r nw' => nw' = nw ∧ ∃ t, r = .str (mk (showD d)) t)
theorem big_le : ∀ {k : Nat}, k ≤ 3 → big k ≤ 806 := by
  intro k hk
  match k, hk with
  | 0, _ => decide
  | 1, _ => decide
  | 2, _ => decide
  | 3, _ => decide

set_option maxHeartbeats 8000000 in
theorem show_list {w : World} {nw : List (Addr × Obj)} {k : Nat} {a₁ : Addr} {vs : List Value} {n₁ : Nat} {ds : List Dat} (hk3 : k + 1 ≤ 3) (IH : ShowIH w k) (hv : ValOk (k + 1) (.list ds)) (hm : (a₁, listOf vs.toArray n₁) ∈ nw) (hD : DatAll nw vs ds) :
    Tell w 175 [.ref a₁] (20 + 10 * (k + 1)) (200 + 20 * (k + 1)) (nw) (fun v nw' => nw' = nw ∧ ∃ t, v = .str (mk (showD (.list ds))) t) := by
  w_top off
  unfold Tell
  k_fill
  intro p loose mean mg mb dp un gd cn cs a ccd cl outer A₀ base h₀ L m s Q E B F X N T hk hdp hun hret
  have hv1 := hv.1
  have hlv := hD.length
  refine wpAny_call ?_
  k_dflt walk_at "mine_enter"
  k_steps
  unfold Halt
  k_dflt refine LCg.ListComp_U (F₀ := by k_asm) (by with_unfolding_all rfl) (by decide) (by rfl) (by decide) (by rfl) ?_
  k_steps
  k_dflt refine LCg.CompSrc.ledger (by rfl) (by k_asm) (by k_asm) (List.mem_cons_of_mem _ hm) (by rw [List.size_toArray, hlv, sizeLine_eq]; omega) ?_
  intro g
  refine comp_list (.inr ⟨_, List.mem_cons_of_mem _ hm, rfl, _, rfl⟩) (fun i => mk (showD (ds.getD i .none))) ?_ ?_
  · intro i v I oI C oC D m₂ ys h tk E' hc hC hx F₃ N₃ off ne
    have hi : i < ds.length := by
      rw [← hlv, ← List.size_toArray]
      exact (Array.getElem?_eq_some_iff.mp hc).1
    obtain ⟨v', g1, g2⟩ := hD.get hi
    have hv' : v' = v := by
      rw [List.getElem?_toArray] at hc
      rw [hc] at g1; exact (Option.some.inj g1).symm
    subst hv'
    k_steps
    unfold Halt
    have hds : ds.getD i .none = ds[i] := by simp [List.getD_eq_getElem?_getD, List.getElem?_eq_getElem hi]
    refine Tell.use (IH ds[i] _ _ (hv.2 _ (List.getElem_mem hi)) (g2.mono fun _ h => List.mem_cons_of_mem _ (List.mem_cons_of_mem _ (List.mem_cons_of_mem _ (List.mem_cons_of_mem _ h))))) (by k_asm) F₃ (by k_asm) N₃ (by k_asm) rfl (by ktr_room) (by ktr_units) ?_
    rintro r9 h9 tk9 n9 F9 N9 ⟨rfl, t9, rfl⟩
    k_steps
    exact LCg.CompEnd.intro (by k_asm) (by k_asm) _ (fun p hp => hp) off (.inr ⟨_, List.mem_cons_of_mem _ hm, rfl, _, rfl⟩) ⟨rfl, _, by rw [hds]⟩
  · intro l hl D h tk F₃ N₃ o1
    rw [List.size_toArray, hlv, texts_eq (f := fun d => mk (showD d))] at hl
    have hbk := big_le (k := k) (by omega)
    have hok : JoinOk (Str.ofString ", ") (ds.map fun d => mk (showD d)) = true := joinOk_of (m := 3) (c := big k) (by simpa using hv1) (by intro t ht; obtain ⟨d, hd, rfl⟩ := List.mem_map.mp ht; rw [mk_len]; exact show_len k d (hv.2 d hd)) (by rw [s_sep, mk_len]; simp only [List.length_cons, List.length_nil]; omega)
    have hj : Txt.join (Str.ofString ", ") (ds.map fun d => mk (showD d)) = mk (joinL [44, 32] (ds.map showD)) := by
      rw [s_sep]; have := join_mk [44, 32] (ds.map showD); rwa [List.map_map] at this
    have hsl := show_len _ _ hv
    have hbk1 := big_le hk3
    have e9 : showD (.list ds) = 91 :: (joinL [44, 32] (ds.map showD) ++ [93]) := by rw [showD, showDs_map]
    have hl3 : (mk (joinL [44, 32] (ds.map showD))).length ≤ 1000 := by
      rw [mk_len]; rw [e9, List.length_cons, List.length_append] at hsl; omega
    k_steps
    rw [s_lb, s_rb, mk_append, mk_append]
    exact hret _ _ _ _ (by k_asm) (news_tail (news_tail (by k_asm))) ⟨rfl, _, by rw [e9]; rfl⟩

theorem show_all (w : World) : ∀ k, k ≤ 3 → ShowIH w k := by
  have leaf : ∀ (k : Nat) (d : Dat) (v : Value) (nw : List (Addr × Obj)), ValOk k d → (∀ ds, d ≠ .list ds) → DatIn nw v d → Tell w 175 [v] 20 200 nw (fun r nw' => nw' = nw ∧ ∃ t, r = .str (mk (showD d)) t) := by
    intro k d v nw hv hnl hD
    cases hD with
    | none => exact show_none
    | int i t =>
      have hv' : -1000 ≤ i ∧ i < 10 ^ 12 := by cases k <;> exact hv
      exact show_int hv'.1 hv'.2
    | str x t =>
      have hv' : WordOk x := by cases k <;> exact hv
      exact show_str hv'.1 (fun c hc => by have := hv'.2 c hc; simp [sgs] at this; omega)
    | list _ _ => exact absurd rfl (hnl _)
    | _ => cases k <;> simp [ValOk] at hv
  intro k
  induction k with
  | zero =>
    intro _ d v nw hv hD
    exact (leaf 0 d v nw hv (fun ds e => by subst e; simp [ValOk] at hv) hD).mono (fun _ _ q => q) (by omega) (by omega)
  | succ k ih =>
    intro hk d v nw hv hD
    by_cases hl : ∃ ds, d = .list ds
    · obtain ⟨ds, rfl⟩ := hl
      cases hD with
      | list hm hD => exact show_list hk (ih (by omega)) hv hm hD
    · exact (leaf _ d v nw hv (fun ds e => hl ⟨ds, e⟩) hD).mono (fun _ _ q => q) (by omega) (by omega)
end Mine
end
/-! E1 -/
section
open PySem PySem.W PySem.Calls PyProof.Rows
set_option Elab.async false
set_option maxRecDepth 100000
namespace Mine
local macro_rules | `(tactic| walk_at "eval ListComp") => `(tactic| refine Halt.mk ?_)
local macro_rules | `(tactic| walk_at "binaryOp FloorDiv int int") => `(tactic| (with_reducible refine floordiv_int ?kbe ?_ (Or.inl ?kpy); (case kbe => omega); (case kpy => assumption)))

set_option maxHeartbeats 8000000 in
theorem draw_core {w : World} {p₁ cl₁ : Addr} {g₁ mx₁ pl₁ lim : Int} {tg tm tp tl : Tok} {n₁ nc : Nat} {cs₁ : List Value} {ns : List Int} {nw : List (Addr × Obj)} (hn : ∀ q ∈ nw, q.1 ≠ p₁) (hpc : @Ne Nat p₁ cl₁) (hi : IntsAre cs₁ ns) (hcl : ns.length ≤ 48) (g0 : 0 ≤ g₁) (m0 : 0 ≤ mx₁) (m1 : mx₁ < 2147483647) (p0 : 0 ≤ pl₁) (p1 : pl₁ ≤ 100000) (l0 : 2 ≤ lim) (l1 : lim ≤ 10 ^ 12) :
    Tell w 187 [.ref p₁, .int lim tl] 3 30 ((p₁, penO cl₁ g₁ mx₁ pl₁ tg tm tp n₁) :: (cl₁, listOf cs₁.toArray nc) :: nw) (fun v nw' => ∃ o', nw' = (p₁, o') :: (cl₁, listOf cs₁.toArray nc) :: nw ∧ ∃ (P' : Pen) (d : Int) (t : Tok), o' = P'.o cl₁ ∧ P'.Ok (pl₁ + 1) ∧ v = .int d t ∧ 0 ≤ d ∧ d < lim) := by
  w_top off
  unfold Tell
  k_fill
  intro p loose mean mg mb dp un gd cn cs a ccd cl outer A₀ base h₀ L m s Q E B F X N T hk hdp hun hret
  have hpy := noPy l0 l1 g₁
  have hm := fmod_ok (x := mx₁ * 16807 + pl₁ * pl₁ + 7) (lim := 2147483647) (by decide)
  refine wpAny_call ?_
  k_dflt walk_at "mine_enter"
  k_steps
  · exact hret _ _ _ _ (by k_asm) (by k_asm) ⟨_, rfl, ⟨_, _, _, _, _, _, _⟩, _, _, rfl, ⟨fdiv_ok l0 g0, m0, m1, by dsimp only; omega, by dsimp only; omega⟩, rfl, (fmod_ok l0).1, (fmod_ok l0).2⟩
  · exact hret _ _ _ _ (by k_asm) (by k_asm) ⟨_, rfl, ⟨_, _, _, _, _, _, _⟩, _, _, rfl, ⟨g0, hm.1, hm.2, by dsimp only; omega, by dsimp only; omega⟩, rfl, (fmod_ok l0).1, (fmod_ok l0).2⟩
  · exact hret _ _ _ _ (by k_asm) (by k_asm) ⟨_, rfl, ⟨_, _, _, _, _, _, _⟩, _, _, rfl, ⟨g0, hm.1, hm.2, by dsimp only; omega, by dsimp only; omega⟩, rfl, (fmod_ok l0).1, (fmod_ok l0).2⟩

theorem draw_tell {w : World} {p₁ cl₁ : Addr} {P₁ : Pen} {nc : Nat} {cs₁ : List Value} {ns : List Int} {nw : List (Addr × Obj)} {b₁ : Int} {lim : Int} {tl : Tok} {ff : Obj → List (Addr × Obj)} (hx : (cl₁, listOf cs₁.toArray nc) ∈ nw) (hU : UpdF p₁ (P₁.o cl₁) nw ff) (hi : IntsAre cs₁ ns) (hcl : ns.length ≤ 48) (hP : P₁.Ok b₁) (hb : b₁ ≤ 100000) (l0 : 2 ≤ lim) (l1 : lim ≤ 10 ^ 12) :
    Tell w 187 [.ref p₁, .int lim tl] 3 30 nw (fun v nw' => ∃ o', nw' = ff o' ∧ ∃ (P' : Pen) (d : Int) (t : Tok), o' = P'.o cl₁ ∧ P'.Ok (b₁ + 1) ∧ v = .int d t ∧ 0 ≤ d ∧ d < lim) :=
  upd_pen hx hU (pen_ne hi) (fun rest hn hpc => (draw_core hn hpc hi hcl hP.g0 hP.m0 hP.m1 hP.p0 (Int.le_trans hP.p1 hb) l0 l1).mono (fun v n ⟨o', e, P', d, t, e1, e2, e3⟩ => ⟨o', e, P', d, t, e1, ⟨e2.g0, e2.m0, e2.m1, e2.p0, by have := e2.p1; have := hP.p1; omega⟩, e3⟩))
end Mine
end
/-! E2 -/
section
open PySem PySem.W PySem.Calls PyProof.Rows
set_option Elab.async false
set_option maxRecDepth 100000
namespace Mine
local macro_rules | `(tactic| walk_at "eval ListComp") => `(tactic| refine Halt.mk ?_)
local macro_rules | `(tactic| walk_at "call builtin:str.join") => `(tactic| (k_here; k_dflt (refine' join_at ?N ?m ?i ?t ?o ?r ?_; (case N => k_asm); (case m => k_mem); (case i => (first | rfl | assumption)); (case t => assumption); (case o => assumption); (case r => assumption)); intro t9 k9))
local macro_rules | `(tactic| walk_at "call ref") => `(tactic| (k_here; (with_reducible show wpAny _ _ (call (Value.ref 187) _) _ _ _); k_dflt (refine' Tell.use (draw_tell ?hx ?hU ?hi ?hcl ?hP ?hb ?l0 ?l1) ?B ?F ?X ?N ?T ?K ?D ?U ?_; (case B => k_asm); (case F => k_asm); (case X => k_asm); (case N => k_asm); (case T => k_asm); (case K => first | exact rfl | assumption); (case hU => k_updF); (case hx => k_mem); (case hi => assumption); (case hcl => assumption); (case hP => assumption); (case hb => omega); (case l0 => decide); (case l1 => decide); (case D => ktr_room); (case U => ktr_units)); intro r9 h9 tk9 n9 F9 N9 P9; obtain ⟨o9, e1, P9', d9, t9, e2, hP9, e3, d0, d1⟩ := P9; subst e1 e2 e3; (try k_sweep); (try dsimp only at N9); (try dsimp only)))
local macro_rules | `(tactic| walk_at "CompSrc") => `(tactic| refine Halt.mk ?_)
local macro_rules | `(tactic| walk_at "subscriptTail") => `(tactic| (k_here; (with_reducible show wpAny _ _ (subscriptTail _ _ (Value.ref 188) (Value.int _ _)) _ _ _); refine Halt.mk ?_))
local macro_rules | `(tactic| walk_at "subscriptTail Name Call ref int") => `(tactic| (k_here; (with_reducible show wpAny _ _ (subscriptTail _ _ (Value.ref 188) (Value.int _ _)) _ _ _); refine Halt.mk ?_))

set_option maxHeartbeats 8000000 in
theorem word_core {w : World} {p₁ cl₁ : Addr} {P₁ : Pen} {nc : Nat} {cs₁ : List Value} {ns : List Int} {nw : List (Addr × Obj)} {b₁ : Int}{tl : Tok} (hn : ∀ q ∈ nw, q.1 ≠ p₁) (hpc : @Ne Nat p₁ cl₁) (hi : IntsAre cs₁ ns) (hcl : ns.length ≤ 48) (hP : P₁.Ok b₁) (hb : b₁ ≤ 90000) (hb0 : 0 ≤ b₁) :
    Tell w 193 [.ref p₁] 9 90 ((p₁, P₁.o cl₁) :: (cl₁, listOf cs₁.toArray nc) :: nw) (fun v nw' => ∃ o', nw' = (p₁, o') :: (cl₁, listOf cs₁.toArray nc) :: nw ∧ ∃ (P' : Pen) (x : Str) (t : Tok), o' = P'.o cl₁ ∧ P'.Ok (b₁ + 7) ∧ v = .str x t ∧ WordOk x) := by
  w_top off
  unfold Tell
  k_fill
  intro p loose mean mg mb dp un gd cn cs a ccd cl outer A₀ base h₀ L m s Q E B F X N T hk hdp hun hret
  refine wpAny_call ?_
  k_dflt walk_at "mine_enterC"
  k_steps
  unfold Halt
  k_dflt refine LCg.ListComp_U (F₀ := by k_asm) (by with_unfolding_all rfl) (by decide) (by rfl) (by decide) (by rfl) ?_
  k_steps
  unfold Halt
  (rename Pen.Ok _ (b₁ + 1) => hP1)
  (rename (_ ∧ _ ∧ AllLt _ _) => lt1)
  obtain ⟨lt1, lt2, lt3⟩ := lt1
  (rename IsRange _ _ _ _ _ _ _ _ => hR)
  (rename (0 ≤ (_ : Int)) => hd0)
  (rename ((_ : Int) < 7) => hd1)
  k_dflt refine LCg.CompSrc.range (by rfl) (by k_asm) (by k_asm) hR (small_one (by decide) (by decide) (by omega) (by omega)) (rangeSize_nat _ _) (by rw [sizeLine_eq]; omega) ?_
  intro g
  k_dflt refine comp_gen (σ := Pen) (fun P => (_, _) :: (p₁, P.o cl₁) :: (cl₁, listOf cs₁.toArray nc) :: nw) (fun i P ys => P.Ok (b₁ + 1 + (i : Int)) ∧ ∃ (l : List (Str × Tok)) (wds : List Nat), ys = strValues l ∧ l.map (·.1) = wds.map (fun c => mk [c]) ∧ wds.length = i ∧ ∀ c ∈ wds, c ∈ sgs) _ ⟨by simpa using hP1, [], [], rfl, rfl, rfl, List.forall_mem_nil _⟩ ?turn ?fin
  case turn =>
    rintro i P ys v I oI C oC D m₂ h tk E' hi9 ⟨t, rfl⟩ ⟨hP2, l, wds, rfl, e2, e3, e4⟩ hC hx F₃ N₃ off ne
    have off0 := off
    simp only [LCg.Off3] at off
    k_steps
    unfold Halt
    k_dflt refine' sign_K ?X ?F ?e ?s1 ?s2 ?h0 ?h1 ?_
    (case X => k_asm)
    (case F => k_asm)
    (case e => k_is)
    (case s1 => rfl)
    (case s2 => decide +kernel)
    (case h0 => assumption)
    (case h1 => assumption)
    intro c9 t9 hc9
    (rename Pen.Ok _ (b₁ + 1 + (i : Int) + 1) => hP3)
    (rename Pen => P3)
    k_steps
    exact LCg.CompEnd.intro (by k_asm) (by k_asm) (_ :: (p₁, P3.o cl₁) :: (cl₁, listOf cs₁.toArray nc) :: nw) (fun p hp => hp) off0 trivial ⟨P3, rfl, hP3.le (by omega), l ++ [(mk [c9], t9)], wds ++ [c9], by simp [strValues], by simp [e2], by simp [e3], by
      intro c hc
      rcases List.mem_append.mp hc with hc | hc
      · exact e4 c hc
      · rw [List.mem_singleton.mp hc]; exact hc9⟩
  case fin =>
    rintro P ys ⟨hP2, l, wds, rfl, e2, e3, e4⟩ D h tk F₃ N₃ o1
    have hl6 : wds.length ≤ 6 := by omega
    have hs0 : Str.ofString "" = mk [] := by decide +kernel
    have hok : JoinOk (Str.ofString "") (wds.map fun c => mk [c]) = true := joinOk_of (m := 6) (c := 1) (by simpa using hl6) (by simp [mk_len]) (by rw [hs0, mk_len]; decide)
    have hj : Txt.join (Str.ofString "") (wds.map fun c => mk [c]) = mk wds := by rw [hs0]; exact join_sgl wds
    k_steps
    exact hret _ _ _ _ (by k_asm) (news_tail (news_tail (by k_asm))) ⟨_, rfl, P, mk wds, _, rfl, hP2.le (by omega), rfl, by simpa [mk] using hl6, by simpa [mk] using e4⟩
end Mine
end
/-! E3 -/
section
open PySem PySem.W PySem.Calls PyProof.Rows
set_option Elab.async false
set_option maxRecDepth 100000
namespace Mine
local macro_rules | `(tactic| walk_at "mine_pad") => `(tactic| fail)
local macro_rules | `(tactic| walk_at "eval ListComp") => `(tactic| refine Halt.mk ?_)

theorem word_tell {w : World} {p₁ cl₁ : Addr} {P₁ : Pen} {nc : Nat} {cs₁ : List Value} {ns : List Int} {nw : List (Addr × Obj)} {b₁ : Int} {ff : Obj → List (Addr × Obj)} (hx : (cl₁, listOf cs₁.toArray nc) ∈ nw) (hU : UpdF p₁ (P₁.o cl₁) nw ff) (hi : IntsAre cs₁ ns) (hcl : ns.length ≤ 48) (hP : P₁.Ok b₁) (hb : b₁ ≤ 90000) (hb0 : 0 ≤ b₁) :
    Tell w 193 [.ref p₁] 9 90 nw (fun v nw' => ∃ o', nw' = ff o' ∧ ∃ (P' : Pen) (x : Str) (t : Tok), o' = P'.o cl₁ ∧ P'.Ok (b₁ + 7) ∧ v = .str x t ∧ WordOk x) :=
  upd_pen hx hU (pen_ne hi) (fun rest hn hpc => word_core (tl := 0) hn hpc hi hcl hP hb hb0)
theorem valOk_int {k : Nat} {i : Int} (h : -1000 ≤ i ∧ i < 10 ^ 12) : ValOk k (.int i) := by cases k <;> exact h
theorem valOk_str {k : Nat} {x : Str} (h : WordOk x) : ValOk k (.str x) := by cases k <;> exact h
theorem valOk_big {k : Nat} {i : Int} (h0 : 0 ≤ i) (h1 : i < 10 ^ Int.toNat 12) : ValOk k (.int i) := valOk_int ⟨by omega, h1⟩
theorem valOk_none {k : Nat} : ValOk k .none := by cases k <;> trivial
def cost : Nat → Nat
  | 0 => 9
  | k + 1 => 3 * cost k + 9
def valPost (p₁ cl₁ : Addr) (cells : Obj) (nw : List (Addr × Obj)) (b₁ : Int) (k : Nat) (v : Value) (nw' : List (Addr × Obj)) : Prop :=
  ∃ (P' : Pen) (tl : List (Addr × Obj)) (d : Dat), nw' = (p₁, P'.o cl₁) :: (cl₁, cells) :: (tl ++ nw) ∧ P'.Ok (b₁ + (cost k : Int)) ∧ DatIn tl v d ∧ ValOk k d ∧ ∀ q ∈ tl, @Ne Nat q.1 p₁ ∧ @Ne Nat q.1 cl₁ ∧ ∀ x ∈ nw, @Ne Nat x.1 q.1
def ValIH (w : World) (p₁ cl₁ : Addr) (cs₁ : List Value) (nc : Nat) (k : Nat) : Prop :=
  ∀ (P₁ : Pen) (nw : List (Addr × Obj)) (b₁ dv : Int) (td : Tok), dv = (k : Int) → (∀ q ∈ nw, q.1 ≠ p₁) → P₁.Ok b₁ → 0 ≤ b₁ → b₁ + (cost k : Int) ≤ 80000 →
    Tell w 198 [.ref p₁, .int dv td] (20 + 10 * k) (200 + 20 * k) ((p₁, P₁.o cl₁) :: (cl₁, listOf cs₁.toArray nc) :: nw) (fun v nw' => valPost p₁ cl₁ (listOf cs₁.toArray nc) nw b₁ k v nw')
local macro_rules | `(tactic| walk_at "call builtin:str.join") => `(tactic| (k_here; k_dflt (refine' join_at ?N ?m ?i ?t ?o ?r ?_; (case N => k_asm); (case m => k_mem); (case i => (first | rfl | assumption)); (case t => assumption); (case o => assumption); (case r => assumption)); intro t9 k9))
local macro_rules | `(tactic| walk_at "call ref") => `(tactic| (k_here; (with_reducible show wpAny _ _ (call (Value.ref 187) _) _ _ _); k_dflt (refine' Tell.use (draw_tell ?hx ?hU ?hi ?hcl ?hP ?hb ?l0 ?l1) ?B ?F ?X ?N ?T ?K ?D ?U ?_; (case B => k_asm); (case F => k_asm); (case X => k_asm); (case N => k_asm); (case T => k_asm); (case K => first | exact rfl | assumption); (case hU => k_updF); (case hx => k_mem); (case hi => assumption); (case hcl => assumption); (case hP => assumption); (case hb => omega); (case l0 => first | decide | omega); (case l1 => first | decide | omega); (case D => ktr_room); (case U => ktr_units)); intro r9 h9 tk9 n9 F9 N9 P9; obtain ⟨o9, e1, P9', d9, t9, e2, hP9, e3, d0, d1⟩ := P9; subst e1 e2 e3; (try k_sweep); (try dsimp only at N9); (try dsimp only)))
local macro_rules | `(tactic| walk_at "call ref") => `(tactic| (k_here; (with_reducible show wpAny _ _ (call (Value.ref 193) _) _ _ _); k_dflt (refine' Tell.use (word_tell ?hx ?hU ?hi ?hcl ?hP ?hb ?hb0) ?B ?F ?X ?N ?T ?K ?D ?U ?_; (case B => k_asm); (case F => k_asm); (case X => k_asm); (case N => k_asm); (case T => k_asm); (case K => first | exact rfl | assumption); (case hU => k_updF); (case hx => k_mem); (case hi => assumption); (case hcl => assumption); (case hP => assumption); (case hb => omega); (case hb0 => omega); (case D => ktr_room); (case U => ktr_units)); intro r9 h9 tk9 n9 F9 N9 P9; obtain ⟨o9, e1, P9', x9, t9, e2, hP9, e3, hw9⟩ := P9; subst e1 e2 e3; (try k_sweep); (try dsimp only at N9); (try dsimp only)))
local macro_rules | `(tactic| walk_at "CompSrc") => `(tactic| refine Halt.mk ?_)
local macro_rules | `(tactic| walk_at "call ref") => `(tactic| (k_here; (with_reducible show wpAny _ _ (call (Value.ref 198) _) _ _ _); refine Halt.mk ?_))

set_option maxHeartbeats 8000000 in
theorem val_zero {w : World} {p₁ cl₁ : Addr} {P₁ : Pen} {nc : Nat} {cs₁ : List Value} {ns : List Int} {nw : List (Addr × Obj)} {b₁ : Int}{dv : Int} {td : Tok} (hdv : dv = ((0 : Nat) : Int)) (hn : ∀ q ∈ nw, q.1 ≠ p₁) (hpc : @Ne Nat p₁ cl₁) (hi : IntsAre cs₁ ns) (hcl : ns.length ≤ 48) (hP : P₁.Ok b₁) (hb0 : 0 ≤ b₁) (hb : b₁ + (cost 0 : Int) ≤ 80000) :
    Tell w 198 [.ref p₁, .int dv td] (20 + 10 * 0) (200 + 20 * 0) ((p₁, P₁.o cl₁) :: (cl₁, listOf cs₁.toArray nc) :: nw) (fun v nw' => valPost p₁ cl₁ (listOf cs₁.toArray nc) nw b₁ 0 v nw') := by
  w_top off
  unfold Tell
  k_fill
  intro p loose mean mg mb dp un gd cn cs a ccd cl outer A₀ base h₀ L m s Q E B F X N T hk hdp hun hret
  subst hdv
  have hc0 : (9 : Int) ≤ (cost 0 : Int) := by unfold cost; omega
  refine wpAny_call ?_
  k_dflt walk_at "mine_enterC"
  k_steps
  all_goals first
    | exact hret _ _ _ _ (by k_asm) (news_tail (news_tail (by k_asm))) ⟨_, [], .none, rfl, Pen.Ok.le (by assumption) (by omega), .none, valOk_none, List.forall_mem_nil _⟩
    | exact hret _ _ _ _ (by k_asm) (news_tail (news_tail (by k_asm))) ⟨_, [], .str _, rfl, Pen.Ok.le (by assumption) (by omega), .str _ _, valOk_str (by assumption), List.forall_mem_nil _⟩
    | exact hret _ _ _ _ (by k_asm) (news_tail (news_tail (by k_asm))) ⟨_, [], .int _, rfl, Pen.Ok.le (by assumption) (by omega), .int _ _, valOk_int (by omega), List.forall_mem_nil _⟩
    | exact hret _ _ _ _ (by k_asm) (news_tail (news_tail (by k_asm))) ⟨_, [], .int _, rfl, Pen.Ok.le (by assumption) (by omega), .int _ _, valOk_big (by assumption) (by assumption), List.forall_mem_nil _⟩
    | skip

set_option maxHeartbeats 8000000 in
theorem val_succ {w : World} {p₁ cl₁ : Addr} {P₁ : Pen} {nc : Nat} {cs₁ : List Value} {ns : List Int} {nw : List (Addr × Obj)} {b₁ : Int}{k : Nat} {dv : Int} {td : Tok} (IH : ValIH w p₁ cl₁ cs₁ nc k) (hdv : dv = ((k + 1 : Nat) : Int)) (hn : ∀ q ∈ nw, q.1 ≠ p₁) (hpc : @Ne Nat p₁ cl₁) (hi : IntsAre cs₁ ns) (hcl : ns.length ≤ 48) (hP : P₁.Ok b₁) (hb0 : 0 ≤ b₁) (hb : b₁ + (cost (k + 1) : Int) ≤ 80000) :
    Tell w 198 [.ref p₁, .int dv td] (20 + 10 * (k + 1)) (200 + 20 * (k + 1)) ((p₁, P₁.o cl₁) :: (cl₁, listOf cs₁.toArray nc) :: nw) (fun v nw' => valPost p₁ cl₁ (listOf cs₁.toArray nc) nw b₁ (k + 1) v nw') := by
  w_top off
  unfold Tell
  k_fill
  intro p loose mean mg mb dp un gd cn cs a ccd cl outer A₀ base h₀ L m s Q E B F X N T hk hdp hun hret
  subst hdv
  have hc0 : (9 : Int) ≤ (cost (k + 1) : Int) := by unfold cost; omega
  refine wpAny_call ?_
  k_dflt walk_at "mine_enterC"
  k_steps
  all_goals first
    | exact hret _ _ _ _ (by k_asm) (news_tail (news_tail (by k_asm))) ⟨_, [], .none, rfl, Pen.Ok.le (by assumption) (by omega), .none, valOk_none, List.forall_mem_nil _⟩
    | exact hret _ _ _ _ (by k_asm) (news_tail (news_tail (by k_asm))) ⟨_, [], .str _, rfl, Pen.Ok.le (by assumption) (by omega), .str _ _, valOk_str (by assumption), List.forall_mem_nil _⟩
    | exact hret _ _ _ _ (by k_asm) (news_tail (news_tail (by k_asm))) ⟨_, [], .int _, rfl, Pen.Ok.le (by assumption) (by omega), .int _ _, valOk_int (by omega), List.forall_mem_nil _⟩
    | exact hret _ _ _ _ (by k_asm) (news_tail (news_tail (by k_asm))) ⟨_, [], .int _, rfl, Pen.Ok.le (by assumption) (by omega), .int _ _, valOk_big (by assumption) (by assumption), List.forall_mem_nil _⟩
    | skip
  unfold Halt
  k_dflt refine LCg.ListComp_U (F₀ := by k_asm) (by with_unfolding_all rfl) (by decide) (by rfl) (by decide) (by rfl) ?_
  k_steps
  unfold Halt
  (rename Pen.Ok _ (b₁ + 1 + 1) => hP1)
  (rename IsRange _ _ _ _ _ _ _ _ => hR)
  have hck : (cost (k + 1) : Int) = 3 * (cost k : Int) + 9 := by simp [cost]
  k_dflt refine LCg.CompSrc.range (by rfl) (by k_asm) (by k_asm) hR (small_one (by decide) (by decide) (by omega) (by omega)) (rangeSize_nat _ _) (by rw [sizeLine_eq]; omega) ?_
  intro g
  k_dflt refine comp_gen (σ := Pen × List (Addr × Obj)) (fun c => (_, _) :: (_, _) :: (p₁, c.1.o cl₁) :: (cl₁, listOf cs₁.toArray nc) :: (c.2 ++ nw)) (fun i c ys => c.1.Ok (b₁ + 2 + (cost k : Int) * (i : Int)) ∧ ∃ ds, DatAll c.2 ys ds ∧ ds.length = i ∧ (∀ d ∈ ds, ValOk k d) ∧ (∀ q ∈ c.2, @Ne Nat q.1 p₁ ∧ @Ne Nat q.1 cl₁ ∧ ∀ x ∈ nw, @Ne Nat x.1 q.1)) (_, []) ⟨hP1.le (by simp; omega), [], .nil, rfl, List.forall_mem_nil _, List.forall_mem_nil _⟩ ?turn ?fin
  case turn =>
    rintro i ⟨P, tl⟩ ys v I oI C oC D m₂ h tk E' hi9 ⟨t, rfl⟩ ⟨hP2, ds, e1, e2, e3, e4⟩ hC hx F₃ N₃ off ne
    dsimp only at hP2 e1 e4 N₃ off
    have off3 := off.mem
    have hi3 : i < 3 := by omega
    have hm1 : (cost k : Int) * (i : Int) ≤ (cost k : Int) * 2 := Int.mul_le_mul_of_nonneg_left (by omega) (by omega)
    have hm2 : 0 ≤ (cost k : Int) * (i : Int) := Int.mul_nonneg (by omega) (by omega)
    have hm3 : (cost k : Int) * ((i + 1 : Nat) : Int) = (cost k : Int) * (i : Int) + (cost k : Int) := by rw [Int.natCast_add, Int.mul_add]; simp
    k_steps
    unfold Halt
    refine Tell.use (Tell.sub (IH P ((I, oI) :: (C, oC) :: (D, LCg.lst ys) :: _ :: _ :: (tl ++ nw)) _ _ _ (by omega) ?hnn hP2 (by omega) (by omega)) perm7) (by k_asm) F₃ (by k_asm) N₃ (by k_asm) rfl (by ktr_room) (by ktr_units) ?_
    case hnn =>
      intro q hq
      have op := off3 (p₁, P.o cl₁) (List.mem_cons_of_mem _ (List.mem_cons_of_mem _ List.mem_cons_self))
      simp only [List.mem_cons, List.mem_append] at hq
      rcases hq with rfl | rfl | rfl | rfl | rfl | hq | hq
      · exact Ne.symm op.1
      · exact Ne.symm op.2.1
      · exact Ne.symm op.2.2
      · show @Ne Nat _ _; dsimp only; omega
      · show @Ne Nat _ _; dsimp only; omega
      · exact (e4 q hq).1
      · exact hn q hq
    rintro r9 h9 tk9 n9 F9 N9 ⟨P', tl2, d, rfl, hP3, hD, hV, hF⟩
    have N10 := news_sub N9 perm8
    k_steps
    refine LCg.CompEnd.intro (by k_asm) N10 (_ :: _ :: (p₁, P'.o cl₁) :: (cl₁, listOf cs₁.toArray nc) :: ((tl2 ++ tl) ++ nw)) (fun p hp => hp) (LCg.Off3.of fun q hq => ?_) trivial ⟨(P', tl2 ++ tl), rfl, hP3.le (by rw [hm3]; omega), ds ++ [d], (e1.mono fun _ h => List.mem_append_right _ h).append (.one (hD.mono fun _ h => List.mem_append_left _ h)), by simp [e2], ?_, ?_⟩
    · simp only [List.mem_cons, List.mem_append] at hq
      rcases hq with rfl | rfl | rfl | rfl | (hq | hq) | hq
      · exact off3 _ List.mem_cons_self
      · exact off3 _ (List.mem_cons_of_mem _ List.mem_cons_self)
      · exact off3 (p₁, P.o cl₁) (List.mem_cons_of_mem _ (List.mem_cons_of_mem _ List.mem_cons_self))
      · exact off3 _ (List.mem_cons_of_mem _ (List.mem_cons_of_mem _ (List.mem_cons_of_mem _ List.mem_cons_self)))
      · have h3 := (hF q hq).2.2
        exact ⟨Ne.symm (h3 _ List.mem_cons_self), Ne.symm (h3 _ (List.mem_cons_of_mem _ List.mem_cons_self)), Ne.symm (h3 _ (List.mem_cons_of_mem _ (List.mem_cons_of_mem _ List.mem_cons_self)))⟩
      · exact off3 q (List.mem_cons_of_mem _ (List.mem_cons_of_mem _ (List.mem_cons_of_mem _ (List.mem_cons_of_mem _ (List.mem_append_left _ hq)))))
      · exact off3 q (List.mem_cons_of_mem _ (List.mem_cons_of_mem _ (List.mem_cons_of_mem _ (List.mem_cons_of_mem _ (List.mem_append_right _ hq)))))
    · intro x hx
      rcases List.mem_append.mp hx with hx | hx
      · exact e3 x hx
      · rw [List.mem_singleton.mp hx]; exact hV
    · intro q hq
      rcases List.mem_append.mp hq with hq | hq
      · exact ⟨(hF q hq).1, (hF q hq).2.1, fun x hx => (hF q hq).2.2 x (List.mem_cons_of_mem _ (List.mem_cons_of_mem _ (List.mem_cons_of_mem _ (List.mem_cons_of_mem _ (List.mem_cons_of_mem _ (List.mem_append_right _ hx))))))⟩
      · exact e4 q hq
  case fin =>
    rintro ⟨P, tl⟩ ys ⟨hP2, ds, e1, e2, e3, e4⟩ D h tk F₃ N₃ o1
    dsimp only at hP2 e1 e4 N₃ o1
    have o2 := off1_mem o1
    have hm4 : (cost k : Int) * (((4 : Nat) : Int) - 1) = 3 * (cost k : Int) := by omega
    k_steps
    have hl3 : ds.length ≤ 3 := by omega
    have hm1 : (cost k : Int) * (ds.length : Int) ≤ (cost k : Int) * 3 := Int.mul_le_mul_of_nonneg_left (by omega) (by omega)
    rw [← e2] at hP2
    exact hret _ _ _ _ (by k_asm) (news_sub (by k_asm) perm9) ⟨P, (D, LCg.lst ys) :: tl, .list ds, rfl, hP2.le (by omega), .list List.mem_cons_self (e1.mono fun _ h => List.mem_cons_of_mem _ h), ⟨hl3, e3⟩, List.forall_mem_cons.mpr ⟨⟨Ne.symm (o2 (p₁, P.o cl₁) (List.mem_cons_of_mem _ (List.mem_cons_of_mem _ List.mem_cons_self))), Ne.symm (o2 (cl₁, listOf cs₁.toArray nc) (List.mem_cons_of_mem _ (List.mem_cons_of_mem _ (List.mem_cons_of_mem _ List.mem_cons_self)))), fun x hx => o2 x (List.mem_cons_of_mem _ (List.mem_cons_of_mem _ (List.mem_cons_of_mem _ (List.mem_cons_of_mem _ (List.mem_append_right _ hx)))))⟩, e4⟩⟩
end Mine
end
/-! E4 -/
section
open PySem PySem.W PySem.Calls PyProof.Rows
set_option Elab.async false
namespace Mine
theorem val_all (w : World) {p₁ cl₁ : Addr} {cs₁ : List Value} {nc : Nat} {ns : List Int} (hpc : @Ne Nat p₁ cl₁) (hi : IntsAre cs₁ ns) (hcl : ns.length ≤ 48) : ∀ k, ValIH w p₁ cl₁ cs₁ nc k := by
  intro k
  induction k with
  | zero => intro P₁ nw b₁ dv td hdv hn hP hb0 hb; exact val_zero hdv hn hpc hi hcl hP hb0 hb
  | succ k ih => intro P₁ nw b₁ dv td hdv hn hP hb0 hb; exact val_succ ih hdv hn hpc hi hcl hP hb0 hb
theorem far_nil {p cl : Addr} {tl : List (Addr × Obj)} (h : ∀ q ∈ tl, @Ne Nat q.1 p ∧ @Ne Nat q.1 cl ∧ ∀ x ∈ ([] : List (Addr × Obj)), @Ne Nat x.1 q.1) : ∀ q ∈ tl, @Ne Nat q.1 p := fun q hq => (h q hq).1
end Mine
end
/-! F1 -/
section
open PySem PySem.W PySem.Calls PyProof.Rows
set_option Elab.async false
set_option maxRecDepth 100000
namespace Mine
local macro_rules | `(tactic| walk_at "mine_enter") => `(tactic| (refine' code_def ?k1 ?k2 ?k3 ?k4 ?k5 ?kA ?kF ?kK ?k6 ?k7 ?k8 ?k9 ?kB ?_ ?c2 ?c3 ?c4 ?c5; (case kA => exact rfl); (case kF => exact rfl); (case kK => assumption); (case k1 => k_asm); (case k2 => k_asm); (case k3 => k_asm); (case k4 => k_asm); (case k5 => k_asm); (case k6 => k_is); (case k7 => k_is); (case k8 => ktr_room); (case k9 => first | exact BindsTo.of_eq rfl | exact binds_K (by k_in) rfl (by k_is) rfl rfl rfl); (case c5 => decide); (case kB => exact locs rfl); (case c2 => exact rfl); (case c3 => exact rfl); (case c4 => exact rfl); k_whole; intro g' L' h' FG' F' N' B' X' T'; (try dsimp only); (try k_lift B'); (try k_fold)))

theorem fold_ok : ∀ (l : List Int) (a : Int), 0 ≤ a → a < 2147483647 → 0 ≤ List.foldl (fun a' n' => (a' * 48271 + n'.fmod 2147483647 + 12345).fmod 2147483647) a l ∧ List.foldl (fun a' n' => (a' * 48271 + n'.fmod 2147483647 + 12345).fmod 2147483647) a l < 2147483647
  | [], _, h0, h1 => ⟨h0, h1⟩
  | n :: l, a, _, _ => by
    have h := fmod_ok (x := a * 48271 + n.fmod 2147483647 + 12345) (lim := 2147483647) (by decide)
    exact fold_ok l _ h.1 h.2
theorem take2 {α : Type} {a b c : α} : ∀ q ∈ [a, b], q ∈ [a, b, c] := by
  intro q hq
  simp only [List.mem_cons] at hq ⊢
  rcases hq with h | h | h <;> simp_all
theorem great_ok {x : Int} : 0 ≤ x.fmod (10 ^ Int.toNat 240) := (fmod_ok (lim := 10 ^ Int.toNat 240) (by decide +kernel)).1
set_option maxHeartbeats 8000000 in
theorem pen_tell {w : World} {ls : Addr} {vs : List Value} {ns : List Int} (hi : IntsAre vs ns) (hlen : ns.length ≤ 63) :
  ∀ (p : Program) (loose : List Str) (mean : ExcName → Option Value) (mg mb : Str → Option Value) (dp un : Nat) (gd : Option (List Code)) (cn : Str) (cs : Scope) (a : Addr) (ccd : Value) (cl : List (Str × Addr)) (outer : List Env) (A₀ : Around) (base h₀ : Heap) (L : Addr) (m : Str → Option Value) (s : Shared) (Q E : Value → Shared → Prop),
    base.IsList ls vs.toArray →
    Below A₀ base outer h₀ → Fr h₀ L s.heap m → (frag w.params).In h₀ → News h₀ L s.heap [] → Top p loose mean mg mb h₀ → cs.kind = .function → dp + 10 < recursionLimit → un + 100 < cLine →
    (∀ r h' tk' news', Fr h₀ L h' m → News h₀ L h' news' → (∃ (p₁ cl₁ : Addr) (P : Pen) (cs₁ : List Value) (nc : Nat) (ns₁ : List Int), r = .ref p₁ ∧ news' = [(p₁, P.o cl₁), (cl₁, listOf cs₁.toArray nc)] ∧ P.Ok 0 ∧ IntsAre cs₁ ns₁ ∧ ns₁.length ≤ 48 ∧ @Ne Nat p₁ cl₁) → Q r { s with heap := h', toks := tk' }) →
    wpAny (model PySem.Challenge.rw_on0162_01.row.prog w) (ktrTop dp un gd cn cs L a ccd cl outer) (call (.ref 180) [.ref ls]) Q E s := by
  k_fill
  intro p loose mean mg mb dp un gd cn cs a ccd cl outer A₀ base h₀ L m s Q E hbl B F X N T hk hdp hun hret
  refine wpAny_call ?_
  k_dflt walk_at "mine_enter"
  have hlen2 : vs.length ≤ 63 := by rw [hi.length]; exact hlen
  k_steps
  all_goals (
    have hf := fold_ok (List.map (fun k' => k') (List.take 48 ns)) 1 (by decide) (by decide)
    have hl48 : (List.map (fun k' => k') (List.take 48 ns)).length ≤ 48 := by simp; omega
    have g0 : (0 : Int) ≤ 0 := Int.le_refl 0
    exact hret _ _ _ _ (by k_asm) (news_sub (by k_asm) take2) ⟨_, _, ⟨_, _, _, _, _, _, _⟩, _, _, _, rfl, rfl, ⟨by first | exact great_ok | exact g0, hf.1, hf.2, g0, g0⟩, by assumption, hl48, by show @Ne Nat _ _; omega⟩)
end Mine
end
/-! F2 -/
section
open PySem PySem.W PySem.Calls PyProof.Rows
set_option Elab.async false
set_option maxRecDepth 100000
open Mine
local macro_rules | `(tactic| k_qdec) => `(tactic| decide +kernel)
local macro_rules | `(tactic| walk_at "mine_enter") => `(tactic| (refine' code_def ?k1 ?k2 ?k3 ?k4 ?k5 ?kA ?kF ?kK ?k6 ?k7 ?k8 ?k9 ?kB ?_ ?c2 ?c3 ?c4 ?c5; (case kA => exact rfl); (case kF => exact rfl); (case kK => assumption); (case k1 => k_asm); (case k2 => k_asm); (case k3 => k_asm); (case k4 => k_asm); (case k5 => k_asm); (case k6 => k_is); (case k7 => k_is); (case k8 => ktr_room); (case k9 => first | exact BindsTo.of_eq rfl | exact binds_K (by k_in) rfl (by k_is) rfl rfl rfl); (case c5 => decide); (case kB => exact locs rfl); (case c2 => exact rfl); (case c3 => exact rfl); (case c4 => exact rfl); k_whole; intro g' L' h' FG' F' N' B' X' T'; (try dsimp only); (try k_lift B'); (try k_fold)))
local macro_rules | `(tactic| walk_at "call ref") => `(tactic| (k_here; (with_reducible show wpAny _ _ (call (Value.ref 187) _) _ _ _); k_dflt (refine' Tell.use (draw_tell ?hx ?hU ?hi ?hcl ?hP ?hb ?l0 ?l1) ?B ?F ?X ?N ?T ?K ?D ?U ?_; (case B => k_asm); (case F => k_asm); (case X => k_asm); (case N => k_asm); (case T => k_asm); (case K => first | exact rfl | assumption); (case hU => k_updF); (case hx => k_mem); (case hi => assumption); (case hcl => assumption); (case hP => assumption); (case hb => omega); (case l0 => decide); (case l1 => decide); (case D => ktr_room); (case U => ktr_units)); intro r9 h9 tk9 n9 F9 N9 P9; obtain ⟨o9, e1, P9', d9, t9, e2, hP9, e3, d0, d1⟩ := P9; subst e1 e2 e3; (try k_sweep); (try dsimp only at N9); (try dsimp only)))
local macro_rules | `(tactic| walk_at "call ref") => `(tactic| (k_here; (with_reducible show wpAny _ _ (call (Value.ref 170) _) _ _ _); k_dflt (refine' Tell.use (escaped_tell2 ?he ?hen ?hz ?hb) ?B ?F ?X ?N ?T ?K ?D ?U ?_; (case B => k_asm); (case F => k_asm); (case X => k_asm); (case N => k_asm); (case T => k_asm); (case K => first | exact rfl | assumption); (case he => assumption); (case hen => (first | assumption | exact rfl | decide +kernel)); (case hz => assumption); (case hb => assumption); (case D => ktr_room); (case U => ktr_units)); intro r9 h9 tk9 n9 F9 N9 P9; obtain ⟨e1, t9, e2⟩ := P9; subst e1 e2; (try k_sweep); (try dsimp only)))
local macro_rules | `(tactic| walk_at "call ref") => `(tactic| (k_here; (with_reducible show wpAny _ _ (call (Value.ref 180) _) _ _ _); refine Halt.mk ?_))
local macro_rules | `(tactic| walk_at "call ref") => `(tactic| (k_here; (with_reducible show wpAny _ _ (call (Value.ref 198) _) _ _ _); refine Halt.mk ?_))
local macro_rules | `(tactic| walk_at "call ref") => `(tactic| (k_here; (with_reducible show wpAny _ _ (call (Value.ref 205) _) _ _ _); refine Halt.mk ?_))
local macro_rules | `(tactic| walk_at "call ref") => `(tactic| (k_here; (with_reducible show wpAny _ _ (call (Value.ref 193) _) _ _ _); refine Halt.mk ?_))
local macro_rules | `(tactic| walk_at "call ref") => `(tactic| (k_here; (with_reducible show wpAny _ _ (call (Value.ref 175) _) _ _ _); refine Halt.mk ?_))
local macro_rules | `(tactic| walk_at "subscriptTail List Call ref int") => `(tactic| refine Halt.mk ?_)
local macro_rules | `(tactic| walk_at "subscriptTail List") => `(tactic| refine Halt.mk ?_)
local macro_rules | `(tactic| walk_at "compareOp NotEq") => `(tactic| refine Halt.mk ?_)
local macro_rules | `(tactic| walk_at "compareOp Eq") => `(tactic| refine Halt.mk ?_)
local macro_rules | `(tactic| walk_at "call ref") => `(tactic| (k_here; (with_reducible show wpAny _ _ (call (Value.ref 44) _) _ _ _); k_dflt (refine' Tell.use (done_tell ?hx ?hd ?H ?hl ) ?B ?F ?X ?N ?T ?K ?D ?U ?_; (case B => k_asm); (case F => k_asm); (case X => k_asm); (case N => k_asm); (case T => k_asm); (case K => first | exact rfl | assumption); (case hx => k_mem); (case hd => k_mem); (case H => (first | assumption | walk_at "mine_at")); (case hl => assumption); (case D => ktr_room); (case U => ktr_units)); intro r9 h9 tk9 n9 F9 N9 P9; obtain ⟨e1, e2⟩ := P9; subst e1; (first | subst e2 | (obtain ⟨t9, e2⟩ := e2; subst e2)); (try k_sweep); (try simp only [List.cons_append, List.nil_append, hdS, reduceCtorEq, decide_true, decide_false, eq_self]); (try dsimp only)))
local macro_rules | `(tactic| walk_at "call ref") => `(tactic| (k_here; (with_reducible show wpAny _ _ (call (Value.ref 52) _) _ _ _); k_dflt (refine' Tell.use (peek_tell ?hx ?hd ?H ?hl ) ?B ?F ?X ?N ?T ?K ?D ?U ?_; (case B => k_asm); (case F => k_asm); (case X => k_asm); (case N => k_asm); (case T => k_asm); (case K => first | exact rfl | assumption); (case hx => k_mem); (case hd => k_mem); (case H => (first | assumption | walk_at "mine_at")); (case hl => assumption); (case D => ktr_room); (case U => ktr_units)); intro r9 h9 tk9 n9 F9 N9 P9; obtain ⟨e1, e2⟩ := P9; subst e1; (first | subst e2 | (obtain ⟨t9, e2⟩ := e2; subst e2)); (try k_sweep); (try simp only [List.cons_append, List.nil_append, hdS, reduceCtorEq, decide_true, decide_false, eq_self]); (try dsimp only)))
local macro_rules | `(tactic| walk_at "call ref") => `(tactic| (k_here; (with_reducible show wpAny _ _ (call (Value.ref 73) _) _ _ _); k_dflt (refine' Tell.use (upd_tell ?hx ?hU cd_ne (fun rest hn hxd => skip_core hn hxd ?H ?hl ?hw)) ?B ?F ?X ?N ?T ?K ?D ?U ?_; (case B => k_asm); (case F => k_asm); (case X => k_asm); (case N => k_asm); (case T => k_asm); (case K => first | exact rfl | assumption); (case hx => k_mem); (case hU => k_updF); (case H => assumption); (case hl => assumption); (case hw => first | decide | omega); (case D => ktr_room); (case U => ktr_units)); intro r9 h9 tk9 n9 F9 N9 P9; obtain ⟨o9, e1, P9⟩ := P9; obtain ⟨t9, t9', e2, e3, H9⟩ := P9; subst e1 e2 e3; (try k_sweep); (try dsimp only at N9); (try dsimp only)))
local macro_rules | `(tactic| walk_at "call ref") => `(tactic| (k_here; (with_reducible show wpAny _ _ (call (Value.ref 144) _) _ _ _); k_dflt (refine' Tell.use (upd_tell ?hx ?hU cd_ne (fun rest hn hxd => quoted_core hn hxd ?hen ?he ?H ?hw ?hl)) ?B ?F ?X ?N ?T ?K ?D ?U ?_; (case B => k_asm); (case F => k_asm); (case X => k_asm); (case N => k_asm); (case T => k_asm); (case K => first | exact rfl | assumption); (case hx => k_mem); (case hU => k_updF); (case H => assumption); (case hen => (first | assumption | rfl)); (case he => assumption); (case hw => assumption); (case hl => assumption); (case D => ktr_room); (case U => ktr_units)); intro r9 h9 tk9 n9 F9 N9 P9; obtain ⟨o9, e1, P9⟩ := P9; obtain ⟨t9, t9', e2, e3, H9⟩ := P9; subst e1 e2 e3; (try k_sweep); (try dsimp only at N9); (try dsimp only)))
local macro_rules | `(tactic| walk_at "subscriptTail Name BinOp str int") => `(tactic| (k_dflt refine' item_at (by assumption) (by assumption) ?_))

set_option maxHeartbeats 8000000 in
theorem PySem.Challenge.cw_on0162_01_holds : PySem.Challenge.rw_on0162_01.Holds := by
  w_on
  refine holds_law (by decide +kernel) fun said => ?_
  refine holds_open (r := PySem.Challenge.rw_on0162_01.row) (q := view) (loose := [(PySem.Str.ofString "LETTERS"), (PySem.Str.ofString "NAME_SIGNS"), (PySem.Str.ofString "HEX_SIGNS"), (PySem.Str.ofString "PLAIN_ESCAPES"), (PySem.Str.ofString "_law_signs")]) (Xt := fun s => xlAt view [((PySem.Str.ofString "LETTERS"), (PySem.W.WData.str (PySem.Str.mk (List.toArray [(97 : Nat), (98 : Nat), (99 : Nat), (100 : Nat), (101 : Nat), (102 : Nat), (103 : Nat), (104 : Nat), (105 : Nat), (106 : Nat), (107 : Nat), (108 : Nat), (109 : Nat), (110 : Nat), (111 : Nat), (112 : Nat), (113 : Nat), (114 : Nat), (115 : Nat), (116 : Nat), (117 : Nat), (118 : Nat), (119 : Nat), (120 : Nat), (121 : Nat), (122 : Nat), (65 : Nat), (66 : Nat), (67 : Nat), (68 : Nat), (69 : Nat), (70 : Nat), (71 : Nat), (72 : Nat), (73 : Nat), (74 : Nat), (75 : Nat), (76 : Nat), (77 : Nat), (78 : Nat), (79 : Nat), (80 : Nat), (81 : Nat), (82 : Nat), (83 : Nat), (84 : Nat), (85 : Nat), (86 : Nat), (87 : Nat), (88 : Nat), (89 : Nat), (90 : Nat)])))), ((PySem.Str.ofString "NAME_SIGNS"), (PySem.W.WData.str (PySem.Str.mk (List.toArray ((97 : Nat) :: (98 : Nat) :: (99 : Nat) :: (100 : Nat) :: (101 : Nat) :: (102 : Nat) :: (103 : Nat) :: (104 : Nat) :: (105 : Nat) :: (106 : Nat) :: (107 : Nat) :: (108 : Nat) :: (109 : Nat) :: (110 : Nat) :: (111 : Nat) :: (112 : Nat) :: (113 : Nat) :: (114 : Nat) :: (115 : Nat) :: (116 : Nat) :: (117 : Nat) :: (118 : Nat) :: (119 : Nat) :: (120 : Nat) :: (121 : Nat) :: (122 : Nat) :: (65 : Nat) :: (66 : Nat) :: (67 : Nat) :: (68 : Nat) :: (69 : Nat) :: (70 : Nat) :: (71 : Nat) :: (72 : Nat) :: (73 : Nat) :: (74 : Nat) :: (75 : Nat) :: (76 : Nat) :: (77 : Nat) :: (78 : Nat) :: (79 : Nat) :: (80 : Nat) :: (81 : Nat) :: (82 : Nat) :: (83 : Nat) :: (84 : Nat) :: (85 : Nat) :: (86 : Nat) :: (87 : Nat) :: (88 : Nat) :: (89 : Nat) :: (90 : Nat) :: (95 : Nat) :: (48 : Nat) :: (49 : Nat) :: (50 : Nat) :: (51 : Nat) :: (52 : Nat) :: (53 : Nat) :: (54 : Nat) :: (55 : Nat) :: (56 : Nat) :: (57 : Nat) :: []))))), ((PySem.Str.ofString "HEX_SIGNS"), (PySem.W.WData.str (PySem.Str.mk (List.toArray [(48 : Nat), (49 : Nat), (50 : Nat), (51 : Nat), (52 : Nat), (53 : Nat), (54 : Nat), (55 : Nat), (56 : Nat), (57 : Nat), (97 : Nat), (98 : Nat), (99 : Nat), (100 : Nat), (101 : Nat), (102 : Nat), (65 : Nat), (66 : Nat), (67 : Nat), (68 : Nat), (69 : Nat), (70 : Nat)]))))] s && recOk (RowW.records PySem.Challenge.rw_on0162_01.row.toRowW) s) (XP := XL view [((PySem.Str.ofString "LETTERS"), (PySem.W.WData.str (PySem.Str.mk (List.toArray [(97 : Nat), (98 : Nat), (99 : Nat), (100 : Nat), (101 : Nat), (102 : Nat), (103 : Nat), (104 : Nat), (105 : Nat), (106 : Nat), (107 : Nat), (108 : Nat), (109 : Nat), (110 : Nat), (111 : Nat), (112 : Nat), (113 : Nat), (114 : Nat), (115 : Nat), (116 : Nat), (117 : Nat), (118 : Nat), (119 : Nat), (120 : Nat), (121 : Nat), (122 : Nat), (65 : Nat), (66 : Nat), (67 : Nat), (68 : Nat), (69 : Nat), (70 : Nat), (71 : Nat), (72 : Nat), (73 : Nat), (74 : Nat), (75 : Nat), (76 : Nat), (77 : Nat), (78 : Nat), (79 : Nat), (80 : Nat), (81 : Nat), (82 : Nat), (83 : Nat), (84 : Nat), (85 : Nat), (86 : Nat), (87 : Nat), (88 : Nat), (89 : Nat), (90 : Nat)])))), ((PySem.Str.ofString "NAME_SIGNS"), (PySem.W.WData.str (PySem.Str.mk (List.toArray ((97 : Nat) :: (98 : Nat) :: (99 : Nat) :: (100 : Nat) :: (101 : Nat) :: (102 : Nat) :: (103 : Nat) :: (104 : Nat) :: (105 : Nat) :: (106 : Nat) :: (107 : Nat) :: (108 : Nat) :: (109 : Nat) :: (110 : Nat) :: (111 : Nat) :: (112 : Nat) :: (113 : Nat) :: (114 : Nat) :: (115 : Nat) :: (116 : Nat) :: (117 : Nat) :: (118 : Nat) :: (119 : Nat) :: (120 : Nat) :: (121 : Nat) :: (122 : Nat) :: (65 : Nat) :: (66 : Nat) :: (67 : Nat) :: (68 : Nat) :: (69 : Nat) :: (70 : Nat) :: (71 : Nat) :: (72 : Nat) :: (73 : Nat) :: (74 : Nat) :: (75 : Nat) :: (76 : Nat) :: (77 : Nat) :: (78 : Nat) :: (79 : Nat) :: (80 : Nat) :: (81 : Nat) :: (82 : Nat) :: (83 : Nat) :: (84 : Nat) :: (85 : Nat) :: (86 : Nat) :: (87 : Nat) :: (88 : Nat) :: (89 : Nat) :: (90 : Nat) :: (95 : Nat) :: (48 : Nat) :: (49 : Nat) :: (50 : Nat) :: (51 : Nat) :: (52 : Nat) :: (53 : Nat) :: (54 : Nat) :: (55 : Nat) :: (56 : Nat) :: (57 : Nat) :: []))))), ((PySem.Str.ofString "HEX_SIGNS"), (PySem.W.WData.str (PySem.Str.mk (List.toArray [(48 : Nat), (49 : Nat), (50 : Nat), (51 : Nat), (52 : Nat), (53 : Nat), (54 : Nat), (55 : Nat), (56 : Nat), (57 : Nat), (97 : Nat), (98 : Nat), (99 : Nat), (100 : Nat), (101 : Nat), (102 : Nat), (65 : Nat), (66 : Nat), (67 : Nat), (68 : Nat), (69 : Nat), (70 : Nat)]))))]) (Yf := Hook.obs (kHook frag ((nat_lit 2) :: (nat_lit 3) :: (nat_lit 15) :: (nat_lit 17) :: (nat_lit 18) :: (nat_lit 20) :: (nat_lit 21) :: (nat_lit 22) :: (nat_lit 30) :: (nat_lit 31) :: (nat_lit 33) :: (nat_lit 34) :: (nat_lit 36) :: (nat_lit 37) :: (nat_lit 38) :: (nat_lit 40) :: (nat_lit 41) :: (nat_lit 43) :: (nat_lit 44) :: (nat_lit 45) :: (nat_lit 46) :: (nat_lit 48) :: (nat_lit 49) :: (nat_lit 51) :: (nat_lit 52) :: (nat_lit 53) :: (nat_lit 55) :: (nat_lit 56) :: (nat_lit 58) :: (nat_lit 59) :: (nat_lit 60) :: (nat_lit 62) :: (nat_lit 63) :: (nat_lit 65) :: (nat_lit 66) :: (nat_lit 67) :: (nat_lit 69) :: (nat_lit 70) :: (nat_lit 72) :: (nat_lit 73) :: (nat_lit 74) :: (nat_lit 76) :: (nat_lit 77) :: (nat_lit 79) :: (nat_lit 80) :: (nat_lit 81) :: (nat_lit 83) :: (nat_lit 84) :: (nat_lit 86) :: (nat_lit 87) :: (nat_lit 88) :: (nat_lit 89) :: (nat_lit 91) :: (nat_lit 92) :: (nat_lit 94) :: (nat_lit 95) :: (nat_lit 96) :: (nat_lit 98) :: (nat_lit 99) :: (nat_lit 101) :: (nat_lit 102) :: (nat_lit 103) :: (nat_lit 105) :: (nat_lit 106) :: (nat_lit 108) :: (nat_lit 109) :: (nat_lit 110) :: (nat_lit 112) :: (nat_lit 113) :: (nat_lit 115) :: (nat_lit 116) :: (nat_lit 117) :: (nat_lit 119) :: (nat_lit 120) :: (nat_lit 122) :: (nat_lit 123) :: (nat_lit 124) :: (nat_lit 126) :: (nat_lit 127) :: (nat_lit 129) :: (nat_lit 130) :: (nat_lit 131) :: (nat_lit 133) :: (nat_lit 134) :: (nat_lit 136) :: (nat_lit 137) :: (nat_lit 138) :: (nat_lit 140) :: (nat_lit 141) :: (nat_lit 143) :: (nat_lit 144) :: (nat_lit 145) :: (nat_lit 146) :: (nat_lit 147) :: (nat_lit 148) :: (nat_lit 149) :: (nat_lit 152) :: (nat_lit 154) :: (nat_lit 155) :: (nat_lit 157) :: (nat_lit 158) :: (nat_lit 159) :: (nat_lit 161) :: (nat_lit 162) :: (nat_lit 164) :: (nat_lit 165) :: (nat_lit 166) :: (nat_lit 169) :: (nat_lit 170) :: (nat_lit 171) :: (nat_lit 174) :: (nat_lit 175) :: (nat_lit 176) :: (nat_lit 179) :: (nat_lit 180) :: (nat_lit 181) :: (nat_lit 183) :: (nat_lit 184) :: (nat_lit 186) :: (nat_lit 187) :: (nat_lit 188) :: (nat_lit 189) :: (nat_lit 192) :: (nat_lit 193) :: (nat_lit 194) :: (nat_lit 197) :: (nat_lit 198) :: (nat_lit 199) :: (nat_lit 201) :: (nat_lit 202) :: (nat_lit 204) :: (nat_lit 205) :: (nat_lit 206) :: (nat_lit 208) :: (nat_lit 209) :: (nat_lit 211) :: (nat_lit 212) :: []) asAre)) (Ya := Hook.val (kHook frag ((nat_lit 2) :: (nat_lit 3) :: (nat_lit 15) :: (nat_lit 17) :: (nat_lit 18) :: (nat_lit 20) :: (nat_lit 21) :: (nat_lit 22) :: (nat_lit 30) :: (nat_lit 31) :: (nat_lit 33) :: (nat_lit 34) :: (nat_lit 36) :: (nat_lit 37) :: (nat_lit 38) :: (nat_lit 40) :: (nat_lit 41) :: (nat_lit 43) :: (nat_lit 44) :: (nat_lit 45) :: (nat_lit 46) :: (nat_lit 48) :: (nat_lit 49) :: (nat_lit 51) :: (nat_lit 52) :: (nat_lit 53) :: (nat_lit 55) :: (nat_lit 56) :: (nat_lit 58) :: (nat_lit 59) :: (nat_lit 60) :: (nat_lit 62) :: (nat_lit 63) :: (nat_lit 65) :: (nat_lit 66) :: (nat_lit 67) :: (nat_lit 69) :: (nat_lit 70) :: (nat_lit 72) :: (nat_lit 73) :: (nat_lit 74) :: (nat_lit 76) :: (nat_lit 77) :: (nat_lit 79) :: (nat_lit 80) :: (nat_lit 81) :: (nat_lit 83) :: (nat_lit 84) :: (nat_lit 86) :: (nat_lit 87) :: (nat_lit 88) :: (nat_lit 89) :: (nat_lit 91) :: (nat_lit 92) :: (nat_lit 94) :: (nat_lit 95) :: (nat_lit 96) :: (nat_lit 98) :: (nat_lit 99) :: (nat_lit 101) :: (nat_lit 102) :: (nat_lit 103) :: (nat_lit 105) :: (nat_lit 106) :: (nat_lit 108) :: (nat_lit 109) :: (nat_lit 110) :: (nat_lit 112) :: (nat_lit 113) :: (nat_lit 115) :: (nat_lit 116) :: (nat_lit 117) :: (nat_lit 119) :: (nat_lit 120) :: (nat_lit 122) :: (nat_lit 123) :: (nat_lit 124) :: (nat_lit 126) :: (nat_lit 127) :: (nat_lit 129) :: (nat_lit 130) :: (nat_lit 131) :: (nat_lit 133) :: (nat_lit 134) :: (nat_lit 136) :: (nat_lit 137) :: (nat_lit 138) :: (nat_lit 140) :: (nat_lit 141) :: (nat_lit 143) :: (nat_lit 144) :: (nat_lit 145) :: (nat_lit 146) :: (nat_lit 147) :: (nat_lit 148) :: (nat_lit 149) :: (nat_lit 152) :: (nat_lit 154) :: (nat_lit 155) :: (nat_lit 157) :: (nat_lit 158) :: (nat_lit 159) :: (nat_lit 161) :: (nat_lit 162) :: (nat_lit 164) :: (nat_lit 165) :: (nat_lit 166) :: (nat_lit 169) :: (nat_lit 170) :: (nat_lit 171) :: (nat_lit 174) :: (nat_lit 175) :: (nat_lit 176) :: (nat_lit 179) :: (nat_lit 180) :: (nat_lit 181) :: (nat_lit 183) :: (nat_lit 184) :: (nat_lit 186) :: (nat_lit 187) :: (nat_lit 188) :: (nat_lit 189) :: (nat_lit 192) :: (nat_lit 193) :: (nat_lit 194) :: (nat_lit 197) :: (nat_lit 198) :: (nat_lit 199) :: (nat_lit 201) :: (nat_lit 202) :: (nat_lit 204) :: (nat_lit 205) :: (nat_lit 206) :: (nat_lit 208) :: (nat_lit 209) :: (nat_lit 211) :: (nat_lit 212) :: []) asAre)) (YP := Hook.says (kHook frag ((nat_lit 2) :: (nat_lit 3) :: (nat_lit 15) :: (nat_lit 17) :: (nat_lit 18) :: (nat_lit 20) :: (nat_lit 21) :: (nat_lit 22) :: (nat_lit 30) :: (nat_lit 31) :: (nat_lit 33) :: (nat_lit 34) :: (nat_lit 36) :: (nat_lit 37) :: (nat_lit 38) :: (nat_lit 40) :: (nat_lit 41) :: (nat_lit 43) :: (nat_lit 44) :: (nat_lit 45) :: (nat_lit 46) :: (nat_lit 48) :: (nat_lit 49) :: (nat_lit 51) :: (nat_lit 52) :: (nat_lit 53) :: (nat_lit 55) :: (nat_lit 56) :: (nat_lit 58) :: (nat_lit 59) :: (nat_lit 60) :: (nat_lit 62) :: (nat_lit 63) :: (nat_lit 65) :: (nat_lit 66) :: (nat_lit 67) :: (nat_lit 69) :: (nat_lit 70) :: (nat_lit 72) :: (nat_lit 73) :: (nat_lit 74) :: (nat_lit 76) :: (nat_lit 77) :: (nat_lit 79) :: (nat_lit 80) :: (nat_lit 81) :: (nat_lit 83) :: (nat_lit 84) :: (nat_lit 86) :: (nat_lit 87) :: (nat_lit 88) :: (nat_lit 89) :: (nat_lit 91) :: (nat_lit 92) :: (nat_lit 94) :: (nat_lit 95) :: (nat_lit 96) :: (nat_lit 98) :: (nat_lit 99) :: (nat_lit 101) :: (nat_lit 102) :: (nat_lit 103) :: (nat_lit 105) :: (nat_lit 106) :: (nat_lit 108) :: (nat_lit 109) :: (nat_lit 110) :: (nat_lit 112) :: (nat_lit 113) :: (nat_lit 115) :: (nat_lit 116) :: (nat_lit 117) :: (nat_lit 119) :: (nat_lit 120) :: (nat_lit 122) :: (nat_lit 123) :: (nat_lit 124) :: (nat_lit 126) :: (nat_lit 127) :: (nat_lit 129) :: (nat_lit 130) :: (nat_lit 131) :: (nat_lit 133) :: (nat_lit 134) :: (nat_lit 136) :: (nat_lit 137) :: (nat_lit 138) :: (nat_lit 140) :: (nat_lit 141) :: (nat_lit 143) :: (nat_lit 144) :: (nat_lit 145) :: (nat_lit 146) :: (nat_lit 147) :: (nat_lit 148) :: (nat_lit 149) :: (nat_lit 152) :: (nat_lit 154) :: (nat_lit 155) :: (nat_lit 157) :: (nat_lit 158) :: (nat_lit 159) :: (nat_lit 161) :: (nat_lit 162) :: (nat_lit 164) :: (nat_lit 165) :: (nat_lit 166) :: (nat_lit 169) :: (nat_lit 170) :: (nat_lit 171) :: (nat_lit 174) :: (nat_lit 175) :: (nat_lit 176) :: (nat_lit 179) :: (nat_lit 180) :: (nat_lit 181) :: (nat_lit 183) :: (nat_lit 184) :: (nat_lit 186) :: (nat_lit 187) :: (nat_lit 188) :: (nat_lit 189) :: (nat_lit 192) :: (nat_lit 193) :: (nat_lit 194) :: (nat_lit 197) :: (nat_lit 198) :: (nat_lit 199) :: (nat_lit 201) :: (nat_lit 202) :: (nat_lit 204) :: (nat_lit 205) :: (nat_lit 206) :: (nat_lit 208) :: (nat_lit 209) :: (nat_lit 211) :: (nat_lit 212) :: []) asAre)) (N := 2730) left (Hook.of (kHook frag ((nat_lit 2) :: (nat_lit 3) :: (nat_lit 15) :: (nat_lit 17) :: (nat_lit 18) :: (nat_lit 20) :: (nat_lit 21) :: (nat_lit 22) :: (nat_lit 30) :: (nat_lit 31) :: (nat_lit 33) :: (nat_lit 34) :: (nat_lit 36) :: (nat_lit 37) :: (nat_lit 38) :: (nat_lit 40) :: (nat_lit 41) :: (nat_lit 43) :: (nat_lit 44) :: (nat_lit 45) :: (nat_lit 46) :: (nat_lit 48) :: (nat_lit 49) :: (nat_lit 51) :: (nat_lit 52) :: (nat_lit 53) :: (nat_lit 55) :: (nat_lit 56) :: (nat_lit 58) :: (nat_lit 59) :: (nat_lit 60) :: (nat_lit 62) :: (nat_lit 63) :: (nat_lit 65) :: (nat_lit 66) :: (nat_lit 67) :: (nat_lit 69) :: (nat_lit 70) :: (nat_lit 72) :: (nat_lit 73) :: (nat_lit 74) :: (nat_lit 76) :: (nat_lit 77) :: (nat_lit 79) :: (nat_lit 80) :: (nat_lit 81) :: (nat_lit 83) :: (nat_lit 84) :: (nat_lit 86) :: (nat_lit 87) :: (nat_lit 88) :: (nat_lit 89) :: (nat_lit 91) :: (nat_lit 92) :: (nat_lit 94) :: (nat_lit 95) :: (nat_lit 96) :: (nat_lit 98) :: (nat_lit 99) :: (nat_lit 101) :: (nat_lit 102) :: (nat_lit 103) :: (nat_lit 105) :: (nat_lit 106) :: (nat_lit 108) :: (nat_lit 109) :: (nat_lit 110) :: (nat_lit 112) :: (nat_lit 113) :: (nat_lit 115) :: (nat_lit 116) :: (nat_lit 117) :: (nat_lit 119) :: (nat_lit 120) :: (nat_lit 122) :: (nat_lit 123) :: (nat_lit 124) :: (nat_lit 126) :: (nat_lit 127) :: (nat_lit 129) :: (nat_lit 130) :: (nat_lit 131) :: (nat_lit 133) :: (nat_lit 134) :: (nat_lit 136) :: (nat_lit 137) :: (nat_lit 138) :: (nat_lit 140) :: (nat_lit 141) :: (nat_lit 143) :: (nat_lit 144) :: (nat_lit 145) :: (nat_lit 146) :: (nat_lit 147) :: (nat_lit 148) :: (nat_lit 149) :: (nat_lit 152) :: (nat_lit 154) :: (nat_lit 155) :: (nat_lit 157) :: (nat_lit 158) :: (nat_lit 159) :: (nat_lit 161) :: (nat_lit 162) :: (nat_lit 164) :: (nat_lit 165) :: (nat_lit 166) :: (nat_lit 169) :: (nat_lit 170) :: (nat_lit 171) :: (nat_lit 174) :: (nat_lit 175) :: (nat_lit 176) :: (nat_lit 179) :: (nat_lit 180) :: (nat_lit 181) :: (nat_lit 183) :: (nat_lit 184) :: (nat_lit 186) :: (nat_lit 187) :: (nat_lit 188) :: (nat_lit 189) :: (nat_lit 192) :: (nat_lit 193) :: (nat_lit 194) :: (nat_lit 197) :: (nat_lit 198) :: (nat_lit 199) :: (nat_lit 201) :: (nat_lit 202) :: (nat_lit 204) :: (nat_lit 205) :: (nat_lit 206) :: (nat_lit 208) :: (nat_lit 209) :: (nat_lit 211) :: (nat_lit 212) :: []) asAre)) (Hook.keeps (kHook frag ((nat_lit 2) :: (nat_lit 3) :: (nat_lit 15) :: (nat_lit 17) :: (nat_lit 18) :: (nat_lit 20) :: (nat_lit 21) :: (nat_lit 22) :: (nat_lit 30) :: (nat_lit 31) :: (nat_lit 33) :: (nat_lit 34) :: (nat_lit 36) :: (nat_lit 37) :: (nat_lit 38) :: (nat_lit 40) :: (nat_lit 41) :: (nat_lit 43) :: (nat_lit 44) :: (nat_lit 45) :: (nat_lit 46) :: (nat_lit 48) :: (nat_lit 49) :: (nat_lit 51) :: (nat_lit 52) :: (nat_lit 53) :: (nat_lit 55) :: (nat_lit 56) :: (nat_lit 58) :: (nat_lit 59) :: (nat_lit 60) :: (nat_lit 62) :: (nat_lit 63) :: (nat_lit 65) :: (nat_lit 66) :: (nat_lit 67) :: (nat_lit 69) :: (nat_lit 70) :: (nat_lit 72) :: (nat_lit 73) :: (nat_lit 74) :: (nat_lit 76) :: (nat_lit 77) :: (nat_lit 79) :: (nat_lit 80) :: (nat_lit 81) :: (nat_lit 83) :: (nat_lit 84) :: (nat_lit 86) :: (nat_lit 87) :: (nat_lit 88) :: (nat_lit 89) :: (nat_lit 91) :: (nat_lit 92) :: (nat_lit 94) :: (nat_lit 95) :: (nat_lit 96) :: (nat_lit 98) :: (nat_lit 99) :: (nat_lit 101) :: (nat_lit 102) :: (nat_lit 103) :: (nat_lit 105) :: (nat_lit 106) :: (nat_lit 108) :: (nat_lit 109) :: (nat_lit 110) :: (nat_lit 112) :: (nat_lit 113) :: (nat_lit 115) :: (nat_lit 116) :: (nat_lit 117) :: (nat_lit 119) :: (nat_lit 120) :: (nat_lit 122) :: (nat_lit 123) :: (nat_lit 124) :: (nat_lit 126) :: (nat_lit 127) :: (nat_lit 129) :: (nat_lit 130) :: (nat_lit 131) :: (nat_lit 133) :: (nat_lit 134) :: (nat_lit 136) :: (nat_lit 137) :: (nat_lit 138) :: (nat_lit 140) :: (nat_lit 141) :: (nat_lit 143) :: (nat_lit 144) :: (nat_lit 145) :: (nat_lit 146) :: (nat_lit 147) :: (nat_lit 148) :: (nat_lit 149) :: (nat_lit 152) :: (nat_lit 154) :: (nat_lit 155) :: (nat_lit 157) :: (nat_lit 158) :: (nat_lit 159) :: (nat_lit 161) :: (nat_lit 162) :: (nat_lit 164) :: (nat_lit 165) :: (nat_lit 166) :: (nat_lit 169) :: (nat_lit 170) :: (nat_lit 171) :: (nat_lit 174) :: (nat_lit 175) :: (nat_lit 176) :: (nat_lit 179) :: (nat_lit 180) :: (nat_lit 181) :: (nat_lit 183) :: (nat_lit 184) :: (nat_lit 186) :: (nat_lit 187) :: (nat_lit 188) :: (nat_lit 189) :: (nat_lit 192) :: (nat_lit 193) :: (nat_lit 194) :: (nat_lit 197) :: (nat_lit 198) :: (nat_lit 199) :: (nat_lit 201) :: (nat_lit 202) :: (nat_lit 204) :: (nat_lit 205) :: (nat_lit 206) :: (nat_lit 208) :: (nat_lit 209) :: (nat_lit 211) :: (nat_lit 212) :: []) asAre)) (fun s e => xl_of s (Bool.and_eq_true_iff.mp e).1) XL.keeps (by rfl) (by rfl) (by rfl) (fun s e => recFacts_of (Bool.and_eq_true_iff.mp e).2) (by rfl) (by assumption) (by decide +kernel) ⟨rfl, rfl, rfl, rfl, rfl, by decide +kernel⟩ ?hw ?hc
  case hw => w_witness2
  case hc =>
    clear said
    w_top off
    k_go0
    (all_goals try k_fold)
    k_steps
    unfold Halt
    (rename IntsAre _ _ => hI)
    (rename (¬ ((63 : Nat) : Int) < _) => h63)
    (rename Heap.IsList _ _ _ => hLs)
    refine pen_tell hI (by omega) _ _ _ _ _ _ _ _ _ _ _ _ _ _ _ _ _ _ _ _ _ _ hLs (by k_asm) (by k_asm) (by k_asm) (by k_asm) (by k_asm) rfl (by ktr_room) (by ktr_units) ?_
    rintro r h1 tk1 n1 F1 N1 ⟨p₁, cl₁, P0, cs₁, nc, ns₁, rfl, rfl, hP0, hi₁, hcl₁, hpc⟩
    k_sweep
    k_steps
    unfold Halt
    refine Tell.use (val_all _ hpc hi₁ hcl₁ 3 P0 [] 0 _ _ rfl (List.forall_mem_nil _) hP0 (by omega) (by decide)) (by k_asm) (by k_asm) (by k_asm) (by k_asm) (by k_asm) rfl (by ktr_room) (by ktr_units) ?_
    rintro r h2 tk2 n2 F2 N2 ⟨P1, tl1, d, rfl, hP1, hD1, hV1, hF1⟩
    rw [List.append_nil] at N2
    have hp1 := far_nil hF1
    k_sweep
    k_steps
    unfold Halt
    refine Tell.use (show_all _ 3 (by decide) d _ _ hV1 (hD1.mono fun _ h => List.mem_cons_of_mem _ (List.mem_cons_of_mem _ h))) (by k_asm) (by k_asm) (by k_asm) (by k_asm) (by k_asm) rfl (by ktr_room) (by ktr_units) ?_
    rintro r h3 tk3 n3 F3 N3 ⟨rfl, t3, rfl⟩
    k_sweep
    have hlen1 : (mk (showD d)).length ≤ 1000 := by rw [mk_len]; have := show_len 3 d hV1; have := big_le (k := 3) (by decide); omega
    have H0 : At (mk (showD d)) 0 (showD d ++ []) := by rw [List.append_nil]; exact at_mk (l := showD d) (k := 0) (by omega)
    have hnl1 := found_no (x := mk (showD d)) (c := 10) (by simpa [mk] using show_nl 3 d hV1)
    k_steps
    unfold Halt
    (rename ((_ : Nat) < (_ : Nat)) => l2)
    (rename (_ ∧ _ ∧ AllLt _ _) => l1)
    obtain ⟨lp, lc, lt⟩ := l1
    refine Tell.use (read_all _ _ _ _ _ _ _ _ _ 3 d _ _ _ [] hV1 ?hn (Nat.ne_of_gt l2) H0 (fun c l e => nomatch e) hlen1) (by k_asm) (by k_asm) (by k_asm) (by k_asm) (by k_asm) rfl (by ktr_room) (by ktr_units) ?_
    case hn => exact List.forall_mem_cons.mpr ⟨Nat.ne_of_lt lp, List.forall_mem_cons.mpr ⟨Nat.ne_of_lt lc, allLt_ne lt⟩⟩
    rintro r h4 tk4 n4 F4 N4 ⟨tl2, a4, ta4, rfl, hD2, hF2, H4⟩
    k_sweep
    k_steps
    unfold Halt
    refine ne_val (b := true) N4 hD2 (fun p h => List.mem_cons_of_mem _ (List.mem_cons_of_mem _ (List.mem_append_left _ h))) hD1 (fun p h => permA p (List.mem_cons_of_mem _ (List.mem_cons_of_mem _ h))) (k := 3) (k' := 3) (by decide) (by decide) hV1 hV1 (by first | units_room | exact Nat.le_of_ble_eq_true rfl) (by simp) ?_
    dsimp only [Bool.not_true]
    k_steps
    unfold Halt
    refine Tell.use (Tell.sub (val_all _ hpc hi₁ hcl₁ 2 P1 tl1 (0 + (cost 3 : Int)) _ _ rfl hp1 hP1 (by decide) (by decide)) permA) (by k_asm) (by k_asm) (by k_asm) (by k_asm) (by k_asm) rfl (by ktr_room) (by ktr_units) ?_
    rintro r2 h5 tk5 n5 F5 N5 ⟨P2, tl3, d2, rfl, hP2, hD3, hV3, hF3⟩
    k_sweep
    k_steps
    unfold Halt
    refine Tell.use (show_all _ 2 (by decide) d2 _ _ hV3 (hD3.mono fun _ h => List.mem_cons_of_mem _ (List.mem_cons_of_mem _ (List.mem_append_left _ h)))) (by k_asm) (by k_asm) (by k_asm) (by k_asm) (by k_asm) rfl (by ktr_room) (by ktr_units) ?_
    rintro r3 h6 tk6 n6 F6 N6 ⟨rfl, t6, rfl⟩
    k_sweep
    have hinj : (mk (showD d2) == mk (showD d)) = true ↔ d2 = d := by
      rw [beq_iff_eq]
      constructor
      · intro e
        have := mk_ext e
        exact (show_inj 3 d2 d [] [] hV3.mono hV1 (fun c l e => nomatch e) (fun c l e => nomatch e) (by rw [this])).1
      · intro e; rw [e]
    k_steps
    unfold Halt
    refine eq_val (b := (mk (showD d2) == mk (showD d))) N6 hD3 (fun p h => List.mem_cons_of_mem _ (List.mem_cons_of_mem _ (List.mem_append_left _ h))) hD1 (fun p h => List.mem_cons_of_mem _ (List.mem_cons_of_mem _ (List.mem_append_right _ h))) (k := 2) (k' := 3) (by decide) (by decide) hV3 hV1 (by first | units_room | exact Nat.le_of_ble_eq_true rfl) hinj ?_
    have hbb : ((mk (showD d2) == mk (showD d)) != (mk (showD d2) == mk (showD d))) = false := by simp
    k_steps
    unfold Halt
    have hc3 : (cost 3 : Int) = 360 := by decide
    have hc2 : (cost 2 : Int) = 117 := by decide
    refine Tell.use (Tell.sub (word_core (tl := 0) (nw := []) (List.forall_mem_nil _) hpc hi₁ hcl₁ hP2 (by omega) (by omega)) permB) (by k_asm) (by k_asm) (by k_asm) (by k_asm) (by k_asm) rfl (by ktr_room) (by ktr_units) ?_
    rintro r4 h7 tk7 n7 F7 N7 ⟨o', rfl, P3, xw, t7, rfl, hP3, rfl, hW⟩
    k_sweep
    have hz : xw.cps.size ≤ 6 := hW.1
    have hb : ∀ c ∈ xw.cps.toList, c < 100000 := fun c hc => by have := hW.2 c hc; simp [sgs] at this; omega
    k_steps
    unfold Halt
    refine end_item (by k_asm) (by k_mem) rfl (by assumption) (by assumption) ?_
    intro e te he
    have hle : (mk (escL e xw.cps.toList)).length ≤ 24 := by
      rw [mk_len]; have := escL_len e xw.cps.toList; simp at this ⊢; omega
    have hl1 : (⟨#[e]⟩ : Str).length ≤ 1 := by simp [Str.length]
    have hw6 : xw.cps.toList.length ≤ 6 := by simpa using hz
    have hTe : (⟨#[e]⟩ : Str) ++ mk (escL e xw.cps.toList) ++ (⟨#[e]⟩ : Str) ++ Str.ofString "b" ++ (⟨#[e]⟩ : Str) = mk (((((⟨#[e]⟩ : Str).cps.toList ++ escL e xw.cps.toList) ++ [e]) ++ [98]) ++ [e]) := by
      rw [show Str.ofString "b" = mk [98] from by decide +kernel]
      show mk [e] ++ mk _ ++ mk [e] ++ mk [98] ++ mk [e] = _
      simp only [mk_append]
    have HT : At ((⟨#[e]⟩ : Str) ++ mk (escL e xw.cps.toList) ++ (⟨#[e]⟩ : Str) ++ Str.ofString "b" ++ (⟨#[e]⟩ : Str)) 0 ((⟨#[e]⟩ : Str).cps.toList ++ (escL e xw.cps.toList ++ e :: 98 :: e :: [])) := by
      rw [hTe]
      refine ⟨Int.le_refl _, Int.natCast_nonneg _, ?_⟩
      simp [mk]
    have hTl : ((⟨#[e]⟩ : Str) ++ mk (escL e xw.cps.toList) ++ (⟨#[e]⟩ : Str) ++ Str.ofString "b" ++ (⟨#[e]⟩ : Str)).length ≤ 1000 := by
      rw [mk_len] at hle
      rw [hTe, mk_len]
      simp
      try omega
    have hb1 : ((⟨xw.cps.toList.toArray⟩ : Str) != xw) = false := by simp
    have hb2 : ((⟨#[98]⟩ : Str) != Str.ofString "b") = false := by decide +kernel
    have hnl := found_no (x := mk (escL e xw.cps.toList)) (c := 10) (by simpa [mk] using escL_nl he xw.cps.toList)
    k_steps
    (rename IsRange _ _ _ _ _ _ _ _ => hR)
    (rename Fr _ _ _ _ => hF)
    (rename News _ _ _ _ => hN)
    with_unfolding_all refine iter_rangeLaw [Str.ofString "ahead"] (by rfl) hR (small_one (by decide) (by decide) (by omega) (by omega)) (rangeSize_nat _ _) hF hN ?turn ?done
    case done =>
      intro u' h' tk' F' N'
      clear hF hN
      k_steps
    case turn =>
      intro n' t' u' h' tk' own' hlo hhi F' N'
      clear hF hN
      obtain ⟨kn, rfl⟩ := Int.eq_ofNat_of_zero_le hlo
      have hk : kn < (escL e xw.cps.toList).length := by rw [mk_len] at hhi; omega
      have hmk : (mk (escL e xw.cps.toList)).length ≤ 1000 := by omega
      obtain ⟨c, hc⟩ : ∃ c, (escL e xw.cps.toList)[kn]? = some c := ⟨_, List.getElem?_eq_getElem hk⟩
      have Hc := at_item hc
      by_cases hce : c = e
      · have heq : ((⟨#[c]⟩ : Str) == ⟨#[e]⟩) = true := by rw [hce]; simp
        have hke : (escL e xw.cps.toList)[kn]? = some e := by rw [hc, hce]
        k_steps
        unfold Halt
        (rename Fr _ _ _ _ => F'')
        (rename News _ _ _ _ => N'')
        k_dflt refine' while_one (σ := Nat × Tok) (Str.ofString "ahead") (fun _ => _) (fun c => some (.int (c.1 : Int) c.2)) (fun c => kn - c.1) (fun c => c.1 ≤ kn ∧ ∀ j, j < c.1 → (escL e xw.cps.toList)[kn - 1 - j]? = some 92) (0, _) F'' N'' ⟨Nat.zero_le _, fun j h => absurd h (Nat.not_lt_zero _)⟩ ?wturn
        clear F'' N'' F' N'
        rintro ⟨a, ta⟩ h₁ tk₁ F₁ N₁ ⟨ha, hA⟩
        dsimp only at F₁ N₁ ha hA
        by_cases hz0 : a = kn
        · have hodd : (a : Int).fmod 2 = 1 := by
            have := odd_run he _ hke ha hA (.inl hz0)
            rw [Int.fmod_eq_emod_of_nonneg _ (by decide)]; omega
          k_steps
        · obtain ⟨c2, hc2⟩ : ∃ c, (escL e xw.cps.toList)[kn - a - 1]? = some c := ⟨_, List.getElem?_eq_getElem (by omega)⟩
          have Hq : At (mk (escL e xw.cps.toList)) ((kn : Int) - (a : Int) - 1) (c2 :: (escL e xw.cps.toList).drop (kn - a - 1 + 1)) := by rw [show (kn : Int) - (a : Int) - 1 = ((kn - a - 1 : Nat) : Int) by omega]; exact at_item hc2
          by_cases h92 : c2 = 92
          · have hq : ((⟨#[c2]⟩ : Str) == Str.ofString "\\") = true := by subst h92; decide +kernel
            k_steps
            k_dflt refine' WNext.intro (a + 1, _) ?f ?n ?l ?i
            (case f => (try simp only [Int.natCast_add, Int.natCast_one]); exact fr_again (by k_asm))
            (case n => k_asm)
            (case l => show kn - (a + 1) < kn - a; omega)
            (case i =>
              refine ⟨by show a + 1 ≤ kn; omega, fun j hj => ?_⟩
              by_cases hja : j = a
              · subst hja; rw [show kn - 1 - j = kn - j - 1 by omega, hc2, h92]
              · exact hA j (by have : j < a + 1 := hj; omega))
          · have hq : ((⟨#[c2]⟩ : Str) == Str.ofString "\\") = false := by
              rw [show Str.ofString "\\" = ⟨#[92]⟩ from by decide +kernel]; simp [h92]
            have hodd : (a : Int).fmod 2 = 1 := by
              have := odd_run he _ hke ha hA (.inr (by rw [hc2]; simpa using h92))
              rw [Int.fmod_eq_emod_of_nonneg _ (by decide)]; omega
            k_steps
      · have heq : ((⟨#[c]⟩ : Str) == ⟨#[e]⟩) = false := by simp [hce]
        k_steps
end
end
