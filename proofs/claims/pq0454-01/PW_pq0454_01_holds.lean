import PyProof.Rows.All
import Wide.All
import OpenK.AllK
import Wide.FinOn
import Lean
import PySem.Challenge.RW_pq0454_01
open PySem PySem.W PyProof.Rows PySem.Spec PySem.Calls
set_option Elab.async false
set_option linter.unusedVariables false
set_option pp.maxSteps 200
set_option compiler.extract_closed false
namespace Mine
section
set_option maxRecDepth 100000 in
noncomputable def hd.view_39 : Program := by
  refine' (?f : (s0 : Stmt) → (s1 : Stmt) → (s2 : Stmt) → (s3 : Stmt) → (s4 : Stmt) → (s5 : Stmt) → (s6 : Stmt) → (s7 : Stmt) → (s8 : Stmt) → (s9 : Stmt) → (s10 : Stmt) → (s11 : Stmt) → (s12 : Stmt) → (s13 : Stmt) → (s14 : Stmt) → (s15 : Stmt) → (s16 : Stmt) → (s17 : Stmt) → PySem.Challenge.pw_pq0454_01.main.body = [s0, s1, s2, s3, s4, s5, s6, s7, s8, s9, s10, s11, s12, s13, s14, s15, s16, s17] → Program) ?s0 ?s1 ?s2 ?s3 ?s4 ?s5 ?s6 ?s7 ?s8 ?s9 ?s10 ?s11 ?s12 ?s13 ?s14 ?s15 ?s16 ?s17 ?w
  case w => exact rfl
  case f =>
    exact fun s0 s1 s2 s3 s4 s5 s6 s7 s8 s9 s10 s11 s12 s13 s14 s15 s16 s17 _ => { main := { body := [s0, s2, s3, s4, s5, s6, s7, s8, s10, s12, s13, s14, s16, s17], scope := PySem.Challenge.pw_pq0454_01.main.scope, futureAnnotations := PySem.Challenge.pw_pq0454_01.main.futureAnnotations, file := PySem.Challenge.pw_pq0454_01.main.file, more := PySem.Challenge.pw_pq0454_01.main.more }, modules := PySem.Challenge.pw_pq0454_01.modules, parses := PySem.Challenge.pw_pq0454_01.parses, absent := PySem.Challenge.pw_pq0454_01.absent, harvested := PySem.Challenge.pw_pq0454_01.harvested, given := PySem.Challenge.pw_pq0454_01.given }

set_option maxRecDepth 100000 in
noncomputable def hd.heap_39 : Params → Frag := by
  refine' (?f : (p0 : Arguments) → (b0 : List Stmt) → (s0 : Scope) → (p1 : Arguments) → (b1 : List Stmt) → (s1 : Scope) → (p2 : Arguments) → (b2 : List Stmt) → (s2 : Scope) → (p3 : Arguments) → (b3 : List Stmt) → (s3 : Scope) → (p4 : Arguments) → (b4 : List Stmt) → (s4 : Scope) → (p5 : Arguments) → (b5 : List Stmt) → (s5 : Scope) → (p6 : Arguments) → (b6 : List Stmt) → (s6 : Scope) → (p7 : Arguments) → (b7 : List Stmt) → (s7 : Scope) → (p8 : Arguments) → (b8 : List Stmt) → (s8 : Scope) → (p9 : Arguments) → (b9 : List Stmt) → (s9 : Scope) → (p10 : Arguments) → (b10 : List Stmt) → (s10 : Scope) → (p11 : Arguments) → (b11 : List Stmt) → (s11 : Scope) → (p12 : Arguments) → (b12 : List Stmt) → (s12 : Scope) → (p13 : Arguments) → (b13 : List Stmt) → (s13 : Scope) → (p14 : Arguments) → (b14 : List Stmt) → (s14 : Scope) → (p15 : Arguments) → (b15 : List Stmt) → (s15 : Scope) → (p16 : Arguments) → (b16 : List Stmt) → (s16 : Scope) → (p17 : Arguments) → (b17 : List Stmt) → (s17 : Scope) → (p18 : Arguments) → (b18 : List Stmt) → (s18 : Scope) → (p19 : Arguments) → (b19 : List Stmt) → (s19 : Scope) → (p20 : Arguments) → (b20 : List Stmt) → (s20 : Scope) → (p21 : Arguments) → (b21 : List Stmt) → (s21 : Scope) → (p22 : Arguments) → (b22 : List Stmt) → (s22 : Scope) → (p23 : Arguments) → (b23 : List Stmt) → (s23 : Scope) → (p24 : Arguments) → (b24 : List Stmt) → (s24 : Scope) → (p25 : Arguments) → (b25 : List Stmt) → (s25 : Scope) → (p26 : Arguments) → (b26 : List Stmt) → (s26 : Scope) → (p27 : Arguments) → (b27 : List Stmt) → (s27 : Scope) → PySem.Challenge.pw_pq0454_01.main.body = [Stmt.FunctionDef _ p0 b0 _ _ _ s0 _ _ _, _, Stmt.FunctionDef _ p1 b1 _ _ _ s1 _ _ _, Stmt.FunctionDef _ p2 b2 _ _ _ s2 _ _ _, Stmt.FunctionDef _ p3 b3 _ _ _ s3 _ _ _, Stmt.FunctionDef _ p4 b4 _ _ _ s4 _ _ _, Stmt.FunctionDef _ p5 b5 _ _ _ s5 _ _ _, Stmt.FunctionDef _ p6 b6 _ _ _ s6 _ _ _, Stmt.FunctionDef _ p7 b7 _ _ _ s7 _ _ _, _, Stmt.ClassDef _ _ _ [Stmt.FunctionDef _ p8 b8 _ _ _ s8 _ _ _, Stmt.FunctionDef _ p9 b9 _ _ _ s9 _ _ _, Stmt.FunctionDef _ p10 b10 _ _ _ s10 _ _ _, Stmt.FunctionDef _ p11 b11 _ _ _ s11 _ _ _] _ _ _ _ _ _ _, _, Stmt.FunctionDef _ p12 b12 _ _ _ s12 _ _ _, Stmt.ClassDef _ _ _ [Stmt.FunctionDef _ p13 b13 _ _ _ s13 _ _ _, Stmt.FunctionDef _ p14 b14 _ _ _ s14 _ _ _, Stmt.FunctionDef _ p15 b15 _ _ _ s15 _ _ _, Stmt.FunctionDef _ p16 b16 _ _ _ s16 _ _ _, Stmt.FunctionDef _ p17 b17 _ _ _ s17 _ _ _, Stmt.FunctionDef _ p18 b18 _ _ _ s18 _ _ _] _ _ _ _ _ _ _, Stmt.ClassDef _ _ _ [Stmt.FunctionDef _ p19 b19 _ _ _ s19 _ _ _, Stmt.FunctionDef _ p20 b20 _ _ _ s20 _ _ _, Stmt.FunctionDef _ p21 b21 _ _ _ s21 _ _ _, Stmt.FunctionDef _ p22 b22 _ _ _ s22 _ _ _, Stmt.FunctionDef _ p23 b23 _ _ _ s23 _ _ _, Stmt.FunctionDef _ p24 b24 _ _ _ s24 _ _ _, Stmt.FunctionDef _ p25 b25 _ _ _ s25 _ _ _] _ _ _ _ _ _ _, _, Stmt.FunctionDef _ p26 b26 _ _ _ s26 _ _ _, Stmt.FunctionDef _ p27 b27 _ _ _ s27 _ _ _] → Params → Frag) ?p0 ?b0 ?s0 ?p1 ?b1 ?s1 ?p2 ?b2 ?s2 ?p3 ?b3 ?s3 ?p4 ?b4 ?s4 ?p5 ?b5 ?s5 ?p6 ?b6 ?s6 ?p7 ?b7 ?s7 ?p8 ?b8 ?s8 ?p9 ?b9 ?s9 ?p10 ?b10 ?s10 ?p11 ?b11 ?s11 ?p12 ?b12 ?s12 ?p13 ?b13 ?s13 ?p14 ?b14 ?s14 ?p15 ?b15 ?s15 ?p16 ?b16 ?s16 ?p17 ?b17 ?s17 ?p18 ?b18 ?s18 ?p19 ?b19 ?s19 ?p20 ?b20 ?s20 ?p21 ?b21 ?s21 ?p22 ?b22 ?s22 ?p23 ?b23 ?s23 ?p24 ?b24 ?s24 ?p25 ?b25 ?s25 ?p26 ?b26 ?s26 ?p27 ?b27 ?s27 ?w
  case w => exact rfl
  case f =>
    exact fun p0 b0 s0 p1 b1 s1 p2 b2 s2 p3 b3 s3 p4 b4 s4 p5 b5 s5 p6 b6 s6 p7 b7 s7 p8 b8 s8 p9 b9 s9 p10 b10 s10 p11 b11 s11 p12 b12 s12 p13 b13 s13 p14 b14 s14 p15 b15 s15 p16 b16 s16 p17 b17 s17 p18 b18 s18 p19 b19 s19 p20 b20 s20 p21 b21 s21 p22 b22 s22 p23 b23 s23 p24 b24 s24 p25 b25 s25 p26 b26 s26 p27 b27 s27 _ => fun P => ((
((nat_lit 2), (Obj.mk PySem.Value.none (@none Nat) (Data.dict #[] (0 : Nat)) #[])) ::
((nat_lit 3), (Obj.mk (Value.type "dict") (@none Nat) (Data.dict #[(DictEntry.mk (PyData.keyHash P (Str.ofString "__name__")) (Value.str (Str.ofString "__name__") (165 : Nat)) (Value.str (Str.ofString "law_pq0454_01") (522 : Nat))), (DictEntry.mk (PyData.keyHash P (Str.ofString "__doc__")) (Value.str (Str.ofString "__doc__") (166 : Nat)) PySem.Value.none), (DictEntry.mk (PyData.keyHash P (Str.ofString "__package__")) (Value.str (Str.ofString "__package__") (167 : Nat)) PySem.Value.none), (DictEntry.mk (PyData.keyHash P (Str.ofString "__loader__")) (Value.str (Str.ofString "__loader__") (168 : Nat)) (Value.builtin "__main__.__loader__#opaque")), (DictEntry.mk (PyData.keyHash P (Str.ofString "__spec__")) (Value.str (Str.ofString "__spec__") (169 : Nat)) PySem.Value.none), (DictEntry.mk (PyData.keyHash P (Str.ofString "__annotations__")) (Value.str (Str.ofString "__annotations__") (170 : Nat)) (Value.ref (6 : Nat))), (DictEntry.mk (PyData.keyHash P (Str.ofString "__builtins__")) (Value.str (Str.ofString "__builtins__") (171 : Nat)) (Value.ref (4 : Nat))), (DictEntry.mk (PyData.keyHash P (Str.ofString "__file__")) (Value.str (Str.ofString "__file__") (173 : Nat)) (Value.str (Str.ofString "/claim/cut.py") (172 : Nat))), (DictEntry.mk (PyData.keyHash P (Str.ofString "__cached__")) (Value.str (Str.ofString "__cached__") (174 : Nat)) PySem.Value.none), (DictEntry.mk (PyData.keyHash P (Str.ofString "_wall")) (Value.str (Str.ofString "_wall") (193 : Nat)) (Value.ref (21 : Nat))), (DictEntry.mk (PyData.keyHash P (Str.ofString "mask")) (Value.str (Str.ofString "mask") (202 : Nat)) (Value.ref (28 : Nat))), (DictEntry.mk (PyData.keyHash P (Str.ofString "all_x")) (Value.str (Str.ofString "all_x") (210 : Nat)) (Value.ref (35 : Nat))), (DictEntry.mk (PyData.keyHash P (Str.ofString "all_z")) (Value.str (Str.ofString "all_z") (217 : Nat)) (Value.ref (42 : Nat))), (DictEntry.mk (PyData.keyHash P (Str.ofString "code")) (Value.str (Str.ofString "code") (225 : Nat)) (Value.ref (49 : Nat))), (DictEntry.mk (PyData.keyHash P (Str.ofString "codes")) (Value.str (Str.ofString "codes") (234 : Nat)) (Value.ref (56 : Nat))), (DictEntry.mk (PyData.keyHash P (Str.ofString "from_codes")) (Value.str (Str.ofString "from_codes") (244 : Nat)) (Value.ref (63 : Nat))), (DictEntry.mk (PyData.keyHash P (Str.ofString "put_slice")) (Value.str (Str.ofString "put_slice") (260 : Nat)) (Value.ref (70 : Nat))), (DictEntry.mk (PyData.keyHash P (Str.ofString "Store")) (Value.str (Str.ofString "Store") (329 : Nat)) (Value.ref (108 : Nat))), (DictEntry.mk (PyData.keyHash P (Str.ofString "net_kinds")) (Value.str (Str.ofString "net_kinds") (337 : Nat)) (Value.ref (119 : Nat))), (DictEntry.mk (PyData.keyHash P (Str.ofString "Signal")) (Value.str (Str.ofString "Signal") (421 : Nat)) (Value.ref (171 : Nat))), (DictEntry.mk (PyData.keyHash P (Str.ofString "Design")) (Value.str (Str.ofString "Design") (521 : Nat)) (Value.ref (234 : Nat))), (DictEntry.mk (PyData.keyHash P (Str.ofString "_law_take")) (Value.str (Str.ofString "_law_take") (532 : Nat)) (Value.ref (245 : Nat))), (DictEntry.mk (PyData.keyHash P (Str.ofString "law")) (Value.str (Str.ofString "law") (538 : Nat)) (Value.ref (250 : Nat)))] (23 : Nat)) #[])) ::
((nat_lit 15), (Obj.mk (Value.type "tuple") (@none Nat) (Data.seq #[] (0 : Nat)) #[])) ::
((nat_lit 17), (Obj.mk (Value.type "tuple") (@none Nat) (Data.seq #[(Value.str (Str.ofString "k") (190 : Nat))] (0 : Nat)) #[])) ::
((nat_lit 18), (Obj.mk (Value.type "tuple") (@none Nat) (Data.seq #[] (0 : Nat)) #[])) ::
((nat_lit 20), (Obj.mk (Value.type "code") (@none Nat) (Data.fields #[(Value.str (Str.ofString "_wall") (187 : Nat)), (Value.str (Str.ofString "_wall") (188 : Nat)), (Value.str (Str.ofString "/claim/cut.py") (189 : Nat)), (Value.int 1 (0 : Nat)), (Value.int 1 (0 : Nat)), (Value.int 0 (0 : Nat)), (Value.int 0 (0 : Nat)), (Value.int 3 (0 : Nat)), (Value.ref (15 : Nat)), (Value.bool Bool.true), (Value.int 181 (0 : Nat)), (Value.ref (16 : Nat)), PySem.Value.none, (Value.ref (17 : Nat)), (Value.ref (18 : Nat)), (Value.ref (19 : Nat)), (Value.int 191 (0 : Nat)), (Value.int 1 (0 : Nat)), (Value.str (Str.ofString "/claim/cut.py") (192 : Nat))]) #[])) ::
((nat_lit 21), (Obj.mk (Value.type "function") (@none Nat) (Data.func (FuncData.mk (Str.ofString "_wall") (Str.ofString "_wall") p0 (FuncBody.stmts b0) s0 (3 : Nat) (@List.nil (PySem.Str × Nat)) PySem.Value.none PySem.Value.none PySem.Value.none (Value.str (Str.ofString "__main__") (164 : Nat)) (@none Nat) (Value.ref (20 : Nat)) PySem.Value.none (0 : Nat))) #[])) ::
((nat_lit 22), (Obj.mk (Value.type "tuple") (@none Nat) (Data.seq #[] (0 : Nat)) #[])) ::
((nat_lit 24), (Obj.mk (Value.type "tuple") (@none Nat) (Data.seq #[(Value.str (Str.ofString "w") (199 : Nat))] (0 : Nat)) #[])) ::
((nat_lit 25), (Obj.mk (Value.type "tuple") (@none Nat) (Data.seq #[] (0 : Nat)) #[])) ::
((nat_lit 27), (Obj.mk (Value.type "code") (@none Nat) (Data.fields #[(Value.str (Str.ofString "mask") (196 : Nat)), (Value.str (Str.ofString "mask") (197 : Nat)), (Value.str (Str.ofString "/claim/cut.py") (198 : Nat)), (Value.int 5 (0 : Nat)), (Value.int 1 (0 : Nat)), (Value.int 0 (0 : Nat)), (Value.int 0 (0 : Nat)), (Value.int 3 (0 : Nat)), (Value.ref (22 : Nat)), (Value.bool Bool.true), (Value.int 181 (0 : Nat)), (Value.ref (23 : Nat)), PySem.Value.none, (Value.ref (24 : Nat)), (Value.ref (25 : Nat)), (Value.ref (26 : Nat)), (Value.int 200 (0 : Nat)), (Value.int 5 (0 : Nat)), (Value.str (Str.ofString "/claim/cut.py") (201 : Nat))]) #[])) ::
((nat_lit 28), (Obj.mk (Value.type "function") (@none Nat) (Data.func (FuncData.mk (Str.ofString "mask") (Str.ofString "mask") p1 (FuncBody.stmts b1) s1 (3 : Nat) (@List.nil (PySem.Str × Nat)) PySem.Value.none PySem.Value.none PySem.Value.none (Value.str (Str.ofString "gateloom.vec") (194 : Nat)) (@none Nat) (Value.ref (27 : Nat)) PySem.Value.none (0 : Nat))) #[])) ::
((nat_lit 29), (Obj.mk (Value.type "tuple") (@none Nat) (Data.seq #[] (0 : Nat)) #[])) ::
((nat_lit 31), (Obj.mk (Value.type "tuple") (@none Nat) (Data.seq #[(Value.str (Str.ofString "w") (206 : Nat)), (Value.str (Str.ofString "full") (207 : Nat))] (0 : Nat)) #[])) ::
((nat_lit 32), (Obj.mk (Value.type "tuple") (@none Nat) (Data.seq #[] (0 : Nat)) #[])) ::
((nat_lit 34), (Obj.mk (Value.type "code") (@none Nat) (Data.fields #[(Value.str (Str.ofString "all_x") (203 : Nat)), (Value.str (Str.ofString "all_x") (204 : Nat)), (Value.str (Str.ofString "/claim/cut.py") (205 : Nat)), (Value.int 7 (0 : Nat)), (Value.int 1 (0 : Nat)), (Value.int 0 (0 : Nat)), (Value.int 0 (0 : Nat)), (Value.int 3 (0 : Nat)), (Value.ref (29 : Nat)), (Value.bool Bool.true), (Value.int 181 (0 : Nat)), (Value.ref (30 : Nat)), PySem.Value.none, (Value.ref (31 : Nat)), (Value.ref (32 : Nat)), (Value.ref (33 : Nat)), (Value.int 208 (0 : Nat)), (Value.int 7 (0 : Nat)), (Value.str (Str.ofString "/claim/cut.py") (209 : Nat))]) #[])) ::
((nat_lit 35), (Obj.mk (Value.type "function") (@none Nat) (Data.func (FuncData.mk (Str.ofString "all_x") (Str.ofString "all_x") p2 (FuncBody.stmts b2) s2 (3 : Nat) (@List.nil (PySem.Str × Nat)) PySem.Value.none PySem.Value.none PySem.Value.none (Value.str (Str.ofString "gateloom.vec") (194 : Nat)) (@none Nat) (Value.ref (34 : Nat)) PySem.Value.none (0 : Nat))) #[])) ::
((nat_lit 36), (Obj.mk (Value.type "tuple") (@none Nat) (Data.seq #[] (0 : Nat)) #[])) ::
((nat_lit 38), (Obj.mk (Value.type "tuple") (@none Nat) (Data.seq #[(Value.str (Str.ofString "w") (214 : Nat))] (0 : Nat)) #[])) ::
((nat_lit 39), (Obj.mk (Value.type "tuple") (@none Nat) (Data.seq #[] (0 : Nat)) #[])) ::
((nat_lit 41), (Obj.mk (Value.type "code") (@none Nat) (Data.fields #[(Value.str (Str.ofString "all_z") (211 : Nat)), (Value.str (Str.ofString "all_z") (212 : Nat)), (Value.str (Str.ofString "/claim/cut.py") (213 : Nat)), (Value.int 10 (0 : Nat)), (Value.int 1 (0 : Nat)), (Value.int 0 (0 : Nat)), (Value.int 0 (0 : Nat)), (Value.int 3 (0 : Nat)), (Value.ref (36 : Nat)), (Value.bool Bool.true), (Value.int 181 (0 : Nat)), (Value.ref (37 : Nat)), PySem.Value.none, (Value.ref (38 : Nat)), (Value.ref (39 : Nat)), (Value.ref (40 : Nat)), (Value.int 215 (0 : Nat)), (Value.int 10 (0 : Nat)), (Value.str (Str.ofString "/claim/cut.py") (216 : Nat))]) #[])) ::
((nat_lit 42), (Obj.mk (Value.type "function") (@none Nat) (Data.func (FuncData.mk (Str.ofString "all_z") (Str.ofString "all_z") p3 (FuncBody.stmts b3) s3 (3 : Nat) (@List.nil (PySem.Str × Nat)) PySem.Value.none PySem.Value.none PySem.Value.none (Value.str (Str.ofString "gateloom.vec") (194 : Nat)) (@none Nat) (Value.ref (41 : Nat)) PySem.Value.none (0 : Nat))) #[])) ::
((nat_lit 43), (Obj.mk (Value.type "tuple") (@none Nat) (Data.seq #[] (0 : Nat)) #[])) ::
((nat_lit 45), (Obj.mk (Value.type "tuple") (@none Nat) (Data.seq #[(Value.str (Str.ofString "v") (221 : Nat)), (Value.str (Str.ofString "i") (222 : Nat))] (0 : Nat)) #[])) ::
((nat_lit 46), (Obj.mk (Value.type "tuple") (@none Nat) (Data.seq #[] (0 : Nat)) #[])) ::
((nat_lit 48), (Obj.mk (Value.type "code") (@none Nat) (Data.fields #[(Value.str (Str.ofString "code") (218 : Nat)), (Value.str (Str.ofString "code") (219 : Nat)), (Value.str (Str.ofString "/claim/cut.py") (220 : Nat)), (Value.int 12 (0 : Nat)), (Value.int 2 (0 : Nat)), (Value.int 0 (0 : Nat)), (Value.int 0 (0 : Nat)), (Value.int 3 (0 : Nat)), (Value.ref (43 : Nat)), (Value.bool Bool.true), (Value.int 181 (0 : Nat)), (Value.ref (44 : Nat)), PySem.Value.none, (Value.ref (45 : Nat)), (Value.ref (46 : Nat)), (Value.ref (47 : Nat)), (Value.int 223 (0 : Nat)), (Value.int 12 (0 : Nat)), (Value.str (Str.ofString "/claim/cut.py") (224 : Nat))]) #[])) ::
((nat_lit 49), (Obj.mk (Value.type "function") (@none Nat) (Data.func (FuncData.mk (Str.ofString "code") (Str.ofString "code") p4 (FuncBody.stmts b4) s4 (3 : Nat) (@List.nil (PySem.Str × Nat)) PySem.Value.none PySem.Value.none PySem.Value.none (Value.str (Str.ofString "gateloom.vec") (194 : Nat)) (@none Nat) (Value.ref (48 : Nat)) PySem.Value.none (0 : Nat))) #[])) ::
((nat_lit 50), (Obj.mk (Value.type "tuple") (@none Nat) (Data.seq #[] (0 : Nat)) #[])) ::
((nat_lit 52), (Obj.mk (Value.type "tuple") (@none Nat) (Data.seq #[(Value.str (Str.ofString "v") (229 : Nat)), (Value.str (Str.ofString "row") (230 : Nat)), (Value.str (Str.ofString "i") (231 : Nat))] (0 : Nat)) #[])) ::
((nat_lit 53), (Obj.mk (Value.type "tuple") (@none Nat) (Data.seq #[] (0 : Nat)) #[])) ::
((nat_lit 55), (Obj.mk (Value.type "code") (@none Nat) (Data.fields #[(Value.str (Str.ofString "codes") (226 : Nat)), (Value.str (Str.ofString "codes") (227 : Nat)), (Value.str (Str.ofString "/claim/cut.py") (228 : Nat)), (Value.int 14 (0 : Nat)), (Value.int 1 (0 : Nat)), (Value.int 0 (0 : Nat)), (Value.int 0 (0 : Nat)), (Value.int 3 (0 : Nat)), (Value.ref (50 : Nat)), (Value.bool Bool.true), (Value.int 181 (0 : Nat)), (Value.ref (51 : Nat)), PySem.Value.none, (Value.ref (52 : Nat)), (Value.ref (53 : Nat)), (Value.ref (54 : Nat)), (Value.int 232 (0 : Nat)), (Value.int 14 (0 : Nat)), (Value.str (Str.ofString "/claim/cut.py") (233 : Nat))]) #[])) ::
((nat_lit 56), (Obj.mk (Value.type "function") (@none Nat) (Data.func (FuncData.mk (Str.ofString "codes") (Str.ofString "codes") p5 (FuncBody.stmts b5) s5 (3 : Nat) (@List.nil (PySem.Str × Nat)) PySem.Value.none PySem.Value.none PySem.Value.none (Value.str (Str.ofString "gateloom.vec") (194 : Nat)) (@none Nat) (Value.ref (55 : Nat)) PySem.Value.none (0 : Nat))) #[])) ::
((nat_lit 57), (Obj.mk (Value.type "tuple") (@none Nat) (Data.seq #[] (0 : Nat)) #[])) ::
((nat_lit 59), (Obj.mk (Value.type "tuple") (@none Nat) (Data.seq #[(Value.str (Str.ofString "row") (238 : Nat)), (Value.str (Str.ofString "a") (239 : Nat)), (Value.str (Str.ofString "b") (240 : Nat)), (Value.str (Str.ofString "i") (241 : Nat))] (0 : Nat)) #[])) ::
((nat_lit 60), (Obj.mk (Value.type "tuple") (@none Nat) (Data.seq #[] (0 : Nat)) #[])) ::
((nat_lit 62), (Obj.mk (Value.type "code") (@none Nat) (Data.fields #[(Value.str (Str.ofString "from_codes") (235 : Nat)), (Value.str (Str.ofString "from_codes") (236 : Nat)), (Value.str (Str.ofString "/claim/cut.py") (237 : Nat)), (Value.int 19 (0 : Nat)), (Value.int 1 (0 : Nat)), (Value.int 0 (0 : Nat)), (Value.int 0 (0 : Nat)), (Value.int 3 (0 : Nat)), (Value.ref (57 : Nat)), (Value.bool Bool.true), (Value.int 181 (0 : Nat)), (Value.ref (58 : Nat)), PySem.Value.none, (Value.ref (59 : Nat)), (Value.ref (60 : Nat)), (Value.ref (61 : Nat)), (Value.int 242 (0 : Nat)), (Value.int 19 (0 : Nat)), (Value.str (Str.ofString "/claim/cut.py") (243 : Nat))]) #[])) ::
((nat_lit 63), (Obj.mk (Value.type "function") (@none Nat) (Data.func (FuncData.mk (Str.ofString "from_codes") (Str.ofString "from_codes") p6 (FuncBody.stmts b6) s6 (3 : Nat) (@List.nil (PySem.Str × Nat)) PySem.Value.none PySem.Value.none PySem.Value.none (Value.str (Str.ofString "gateloom.vec") (194 : Nat)) (@none Nat) (Value.ref (62 : Nat)) PySem.Value.none (0 : Nat))) #[])) ::
((nat_lit 64), (Obj.mk (Value.type "tuple") (@none Nat) (Data.seq #[] (0 : Nat)) #[])) ::
((nat_lit 66), (Obj.mk (Value.type "tuple") (@none Nat) (Data.seq #[(Value.str (Str.ofString "v") (248 : Nat)), (Value.str (Str.ofString "lo") (249 : Nat)), (Value.str (Str.ofString "part") (250 : Nat)), (Value.str (Str.ofString "first") (251 : Nat)), (Value.str (Str.ofString "last") (252 : Nat)), (Value.str (Str.ofString "inner") (253 : Nat)), (Value.str (Str.ofString "skip") (254 : Nat)), (Value.str (Str.ofString "keep") (255 : Nat)), (Value.str (Str.ofString "a") (256 : Nat)), (Value.str (Str.ofString "b") (257 : Nat))] (0 : Nat)) #[])) ::
((nat_lit 67), (Obj.mk (Value.type "tuple") (@none Nat) (Data.seq #[] (0 : Nat)) #[])) ::
((nat_lit 69), (Obj.mk (Value.type "code") (@none Nat) (Data.fields #[(Value.str (Str.ofString "put_slice") (245 : Nat)), (Value.str (Str.ofString "put_slice") (246 : Nat)), (Value.str (Str.ofString "/claim/cut.py") (247 : Nat)), (Value.int 26 (0 : Nat)), (Value.int 3 (0 : Nat)), (Value.int 0 (0 : Nat)), (Value.int 0 (0 : Nat)), (Value.int 3 (0 : Nat)), (Value.ref (64 : Nat)), (Value.bool Bool.true), (Value.int 181 (0 : Nat)), (Value.ref (65 : Nat)), PySem.Value.none, (Value.ref (66 : Nat)), (Value.ref (67 : Nat)), (Value.ref (68 : Nat)), (Value.int 258 (0 : Nat)), (Value.int 26 (0 : Nat)), (Value.str (Str.ofString "/claim/cut.py") (259 : Nat))]) #[])) ::
((nat_lit 70), (Obj.mk (Value.type "function") (@none Nat) (Data.func (FuncData.mk (Str.ofString "put_slice") (Str.ofString "put_slice") p7 (FuncBody.stmts b7) s7 (3 : Nat) (@List.nil (PySem.Str × Nat)) PySem.Value.none PySem.Value.none PySem.Value.none (Value.str (Str.ofString "gateloom.vec") (194 : Nat)) (@none Nat) (Value.ref (69 : Nat)) PySem.Value.none (0 : Nat))) #[])) ::
((nat_lit 78), (Obj.mk (Value.type "tuple") (@none Nat) (Data.seq #[] (0 : Nat)) #[])) ::
((nat_lit 80), (Obj.mk (Value.type "tuple") (@none Nat) (Data.seq #[(Value.str (Str.ofString "self") (278 : Nat)), (Value.str (Str.ofString "signals") (279 : Nat))] (0 : Nat)) #[])) ::
((nat_lit 81), (Obj.mk (Value.type "tuple") (@none Nat) (Data.seq #[] (0 : Nat)) #[])) ::
((nat_lit 83), (Obj.mk (Value.type "code") (@none Nat) (Data.fields #[(Value.str (Str.ofString "__init__") (275 : Nat)), (Value.str (Str.ofString "Store.__init__") (276 : Nat)), (Value.str (Str.ofString "/claim/cut.py") (277 : Nat)), (Value.int 40 (0 : Nat)), (Value.int 2 (0 : Nat)), (Value.int 0 (0 : Nat)), (Value.int 0 (0 : Nat)), (Value.int 3 (0 : Nat)), (Value.ref (78 : Nat)), (Value.bool Bool.true), (Value.int 181 (0 : Nat)), (Value.ref (79 : Nat)), PySem.Value.none, (Value.ref (80 : Nat)), (Value.ref (81 : Nat)), (Value.ref (82 : Nat)), (Value.int 280 (0 : Nat)), (Value.int 40 (0 : Nat)), (Value.str (Str.ofString "/claim/cut.py") (281 : Nat))]) #[])) ::
((nat_lit 84), (Obj.mk (Value.type "function") (@none Nat) (Data.func (FuncData.mk (Str.ofString "__init__") (Str.ofString "Store.__init__") p8 (FuncBody.stmts b8) s8 (3 : Nat) (@List.nil (PySem.Str × Nat)) PySem.Value.none PySem.Value.none PySem.Value.none (Value.str (Str.ofString "gateloom.store") (261 : Nat)) (@none Nat) (Value.ref (83 : Nat)) PySem.Value.none (0 : Nat))) #[])) ::
((nat_lit 85), (Obj.mk (Value.type "tuple") (@none Nat) (Data.seq #[] (0 : Nat)) #[])) ::
((nat_lit 87), (Obj.mk (Value.type "tuple") (@none Nat) (Data.seq #[(Value.str (Str.ofString "self") (286 : Nat)), (Value.str (Str.ofString "key") (287 : Nat)), (Value.str (Str.ofString "value") (288 : Nat)), (Value.str (Str.ofString "signal") (289 : Nat))] (0 : Nat)) #[])) ::
((nat_lit 88), (Obj.mk (Value.type "tuple") (@none Nat) (Data.seq #[] (0 : Nat)) #[])) ::
((nat_lit 90), (Obj.mk (Value.type "code") (@none Nat) (Data.fields #[(Value.str (Str.ofString "get") (283 : Nat)), (Value.str (Str.ofString "Store.get") (284 : Nat)), (Value.str (Str.ofString "/claim/cut.py") (285 : Nat)), (Value.int 46 (0 : Nat)), (Value.int 2 (0 : Nat)), (Value.int 0 (0 : Nat)), (Value.int 0 (0 : Nat)), (Value.int 3 (0 : Nat)), (Value.ref (85 : Nat)), (Value.bool Bool.true), (Value.int 181 (0 : Nat)), (Value.ref (86 : Nat)), PySem.Value.none, (Value.ref (87 : Nat)), (Value.ref (88 : Nat)), (Value.ref (89 : Nat)), (Value.int 290 (0 : Nat)), (Value.int 46 (0 : Nat)), (Value.str (Str.ofString "/claim/cut.py") (291 : Nat))]) #[])) ::
((nat_lit 91), (Obj.mk (Value.type "function") (@none Nat) (Data.func (FuncData.mk (Str.ofString "get") (Str.ofString "Store.get") p9 (FuncBody.stmts b9) s9 (3 : Nat) (@List.nil (PySem.Str × Nat)) PySem.Value.none PySem.Value.none PySem.Value.none (Value.str (Str.ofString "gateloom.store") (261 : Nat)) (@none Nat) (Value.ref (90 : Nat)) PySem.Value.none (0 : Nat))) #[])) ::
((nat_lit 92), (Obj.mk (Value.type "tuple") (@none Nat) (Data.seq #[] (0 : Nat)) #[])) ::
((nat_lit 94), (Obj.mk (Value.type "tuple") (@none Nat) (Data.seq #[(Value.str (Str.ofString "self") (296 : Nat)), (Value.str (Str.ofString "key") (297 : Nat)), (Value.str (Str.ofString "place") (298 : Nat)), (Value.str (Str.ofString "words") (299 : Nat)), (Value.str (Str.ofString "value") (300 : Nat)), (Value.str (Str.ofString "signal") (301 : Nat))] (0 : Nat)) #[])) ::
((nat_lit 95), (Obj.mk (Value.type "tuple") (@none Nat) (Data.seq #[] (0 : Nat)) #[])) ::
((nat_lit 97), (Obj.mk (Value.type "code") (@none Nat) (Data.fields #[(Value.str (Str.ofString "word") (293 : Nat)), (Value.str (Str.ofString "Store.word") (294 : Nat)), (Value.str (Str.ofString "/claim/cut.py") (295 : Nat)), (Value.int 55 (0 : Nat)), (Value.int 3 (0 : Nat)), (Value.int 0 (0 : Nat)), (Value.int 0 (0 : Nat)), (Value.int 3 (0 : Nat)), (Value.ref (92 : Nat)), (Value.bool Bool.true), (Value.int 181 (0 : Nat)), (Value.ref (93 : Nat)), PySem.Value.none, (Value.ref (94 : Nat)), (Value.ref (95 : Nat)), (Value.ref (96 : Nat)), (Value.int 302 (0 : Nat)), (Value.int 55 (0 : Nat)), (Value.str (Str.ofString "/claim/cut.py") (303 : Nat))]) #[])) ::
((nat_lit 98), (Obj.mk (Value.type "function") (@none Nat) (Data.func (FuncData.mk (Str.ofString "word") (Str.ofString "Store.word") p10 (FuncBody.stmts b10) s10 (3 : Nat) (@List.nil (PySem.Str × Nat)) PySem.Value.none PySem.Value.none PySem.Value.none (Value.str (Str.ofString "gateloom.store") (261 : Nat)) (@none Nat) (Value.ref (97 : Nat)) PySem.Value.none (0 : Nat))) #[])) ::
((nat_lit 99), (Obj.mk (Value.type "tuple") (@none Nat) (Data.seq #[] (0 : Nat)) #[])) ::
((nat_lit 101), (Obj.mk (Value.type "tuple") (@none Nat) (Data.seq #[(Value.str (Str.ofString "self") (308 : Nat)), (Value.str (Str.ofString "key") (309 : Nat)), (Value.str (Str.ofString "place") (310 : Nat)), (Value.str (Str.ofString "lo") (311 : Nat)), (Value.str (Str.ofString "value") (312 : Nat)), (Value.str (Str.ofString "old") (313 : Nat)), (Value.str (Str.ofString "new") (314 : Nat))] (0 : Nat)) #[])) ::
((nat_lit 102), (Obj.mk (Value.type "tuple") (@none Nat) (Data.seq #[] (0 : Nat)) #[])) ::
((nat_lit 104), (Obj.mk (Value.type "code") (@none Nat) (Data.fields #[(Value.str (Str.ofString "set_bits") (305 : Nat)), (Value.str (Str.ofString "Store.set_bits") (306 : Nat)), (Value.str (Str.ofString "/claim/cut.py") (307 : Nat)), (Value.int 66 (0 : Nat)), (Value.int 5 (0 : Nat)), (Value.int 0 (0 : Nat)), (Value.int 0 (0 : Nat)), (Value.int 3 (0 : Nat)), (Value.ref (99 : Nat)), (Value.bool Bool.true), (Value.int 181 (0 : Nat)), (Value.ref (100 : Nat)), PySem.Value.none, (Value.ref (101 : Nat)), (Value.ref (102 : Nat)), (Value.ref (103 : Nat)), (Value.int 315 (0 : Nat)), (Value.int 66 (0 : Nat)), (Value.str (Str.ofString "/claim/cut.py") (316 : Nat))]) #[])) ::
((nat_lit 105), (Obj.mk (Value.type "function") (@none Nat) (Data.func (FuncData.mk (Str.ofString "set_bits") (Str.ofString "Store.set_bits") p11 (FuncBody.stmts b11) s11 (3 : Nat) (@List.nil (PySem.Str × Nat)) PySem.Value.none PySem.Value.none PySem.Value.none (Value.str (Str.ofString "gateloom.store") (261 : Nat)) (@none Nat) (Value.ref (104 : Nat)) PySem.Value.none (0 : Nat))) #[])) ::
((nat_lit 106), (Obj.mk (Value.type "tuple") (@none Nat) (Data.seq #[(Value.str (Str.ofString "memories") (318 : Nat)), (Value.str (Str.ofString "random_seed") (319 : Nat)), (Value.str (Str.ofString "signals") (320 : Nat)), (Value.str (Str.ofString "values") (321 : Nat))] (0 : Nat)) #[])) ::
((nat_lit 107), (Obj.mk (Value.type "dict") (@none Nat) (Data.dict #[(DictEntry.mk (PyData.keyHash P (Str.ofString "__module__")) (Value.str (Str.ofString "__module__") (270 : Nat)) (Value.str (Str.ofString "gateloom.store") (261 : Nat))), (DictEntry.mk (PyData.keyHash P (Str.ofString "__firstlineno__")) (Value.str (Str.ofString "__firstlineno__") (274 : Nat)) (Value.int 38 (273 : Nat))), (DictEntry.mk (PyData.keyHash P (Str.ofString "__init__")) (Value.str (Str.ofString "__init__") (282 : Nat)) (Value.ref (84 : Nat))), (DictEntry.mk (PyData.keyHash P (Str.ofString "get")) (Value.str (Str.ofString "get") (292 : Nat)) (Value.ref (91 : Nat))), (DictEntry.mk (PyData.keyHash P (Str.ofString "word")) (Value.str (Str.ofString "word") (304 : Nat)) (Value.ref (98 : Nat))), (DictEntry.mk (PyData.keyHash P (Str.ofString "set_bits")) (Value.str (Str.ofString "set_bits") (317 : Nat)) (Value.ref (105 : Nat))), (DictEntry.mk (PyData.keyHash P (Str.ofString "__static_attributes__")) (Value.str (Str.ofString "__static_attributes__") (322 : Nat)) (Value.ref (106 : Nat))), (DictEntry.mk (PyData.keyHash P (Str.ofString "__dict__")) (Value.str (Str.ofString "__dict__") (324 : Nat)) (Value.ref (109 : Nat))), (DictEntry.mk (PyData.keyHash P (Str.ofString "__weakref__")) (Value.str (Str.ofString "__weakref__") (326 : Nat)) (Value.ref (110 : Nat))), (DictEntry.mk (PyData.keyHash P (Str.ofString "__doc__")) (Value.str (Str.ofString "__doc__") (327 : Nat)) PySem.Value.none)] (4 : Nat)) #[])) ::
((nat_lit 108), (Obj.mk (Value.type "type") (@none Nat) (Data.cls (ClassData.mk (Str.ofString "Store") [(Value.type "object")] [(Value.ref (108 : Nat)), (Value.type "object")] (107 : Nat) (Str.ofString "Store") Bool.true [] [] Bool.false none Bool.false)) #[none, none, (some (Value.str (Str.ofString "Store") (263 : Nat))), (some (Value.str (Str.ofString "Store") (271 : Nat))), (some (Value.builtin "object.__new__")), (some (Value.bool Bool.true))])) ::
((nat_lit 109), (Obj.mk (Value.type "getset_descriptor") (@none Nat) (Data.fields #[(Value.str (Str.ofString "__dict__") (323 : Nat)), (Value.ref (108 : Nat)), (Value.builtin "function.__dict__"), (Value.builtin "function.__dict__#set")]) #[])) ::
((nat_lit 110), (Obj.mk (Value.type "getset_descriptor") (@none Nat) (Data.fields #[(Value.str (Str.ofString "__weakref__") (325 : Nat)), (Value.ref (108 : Nat)), (Value.builtin "ExceptionGroup.__weakref__"), PySem.Value.none]) #[])) ::
((nat_lit 113), (Obj.mk (Value.type "tuple") (@none Nat) (Data.seq #[] (0 : Nat)) #[])) ::
((nat_lit 115), (Obj.mk (Value.type "tuple") (@none Nat) (Data.seq #[] (0 : Nat)) #[])) ::
((nat_lit 116), (Obj.mk (Value.type "tuple") (@none Nat) (Data.seq #[] (0 : Nat)) #[])) ::
((nat_lit 118), (Obj.mk (Value.type "code") (@none Nat) (Data.fields #[(Value.str (Str.ofString "net_kinds") (332 : Nat)), (Value.str (Str.ofString "net_kinds") (333 : Nat)), (Value.str (Str.ofString "/claim/cut.py") (334 : Nat)), (Value.int 85 (0 : Nat)), (Value.int 0 (0 : Nat)), (Value.int 0 (0 : Nat)), (Value.int 0 (0 : Nat)), (Value.int 3 (0 : Nat)), (Value.ref (113 : Nat)), (Value.bool Bool.true), (Value.int 181 (0 : Nat)), (Value.ref (114 : Nat)), PySem.Value.none, (Value.ref (115 : Nat)), (Value.ref (116 : Nat)), (Value.ref (117 : Nat)), (Value.int 335 (0 : Nat)), (Value.int 85 (0 : Nat)), (Value.str (Str.ofString "/claim/cut.py") (336 : Nat))]) #[])) ::
((nat_lit 119), (Obj.mk (Value.type "function") (@none Nat) (Data.func (FuncData.mk (Str.ofString "net_kinds") (Str.ofString "net_kinds") p12 (FuncBody.stmts b12) s12 (3 : Nat) (@List.nil (PySem.Str × Nat)) PySem.Value.none PySem.Value.none PySem.Value.none (Value.str (Str.ofString "gateloom.design") (330 : Nat)) (@none Nat) (Value.ref (118 : Nat)) PySem.Value.none (0 : Nat))) #[])) ::
((nat_lit 127), (Obj.mk (Value.type "tuple") (@none Nat) (Data.seq #[] (0 : Nat)) #[])) ::
((nat_lit 129), (Obj.mk (Value.type "tuple") (@none Nat) (Data.seq #[(Value.str (Str.ofString "self") (353 : Nat)), (Value.str (Str.ofString "key") (354 : Nat)), (Value.str (Str.ofString "path") (355 : Nat)), (Value.str (Str.ofString "kind") (356 : Nat)), (Value.str (Str.ofString "width") (357 : Nat)), (Value.str (Str.ofString "signed") (358 : Nat)), (Value.str (Str.ofString "msb") (359 : Nat)), (Value.str (Str.ofString "lsb") (360 : Nat))] (0 : Nat)) #[])) ::
((nat_lit 130), (Obj.mk (Value.type "tuple") (@none Nat) (Data.seq #[] (0 : Nat)) #[])) ::
((nat_lit 132), (Obj.mk (Value.type "code") (@none Nat) (Data.fields #[(Value.str (Str.ofString "__init__") (350 : Nat)), (Value.str (Str.ofString "Signal.__init__") (351 : Nat)), (Value.str (Str.ofString "/claim/cut.py") (352 : Nat)), (Value.int 89 (0 : Nat)), (Value.int 8 (0 : Nat)), (Value.int 0 (0 : Nat)), (Value.int 0 (0 : Nat)), (Value.int 3 (0 : Nat)), (Value.ref (127 : Nat)), (Value.bool Bool.true), (Value.int 181 (0 : Nat)), (Value.ref (128 : Nat)), PySem.Value.none, (Value.ref (129 : Nat)), (Value.ref (130 : Nat)), (Value.ref (131 : Nat)), (Value.int 361 (0 : Nat)), (Value.int 89 (0 : Nat)), (Value.str (Str.ofString "/claim/cut.py") (362 : Nat))]) #[])) ::
((nat_lit 133), (Obj.mk (Value.type "function") (@none Nat) (Data.func (FuncData.mk (Str.ofString "__init__") (Str.ofString "Signal.__init__") p13 (FuncBody.stmts b13) s13 (3 : Nat) (@List.nil (PySem.Str × Nat)) PySem.Value.none PySem.Value.none PySem.Value.none (Value.str (Str.ofString "gateloom.design") (330 : Nat)) (@none Nat) (Value.ref (132 : Nat)) PySem.Value.none (0 : Nat))) #[])) ::
((nat_lit 134), (Obj.mk (Value.type "tuple") (@none Nat) (Data.seq #[] (0 : Nat)) #[])) ::
((nat_lit 136), (Obj.mk (Value.type "tuple") (@none Nat) (Data.seq #[(Value.str (Str.ofString "self") (367 : Nat))] (0 : Nat)) #[])) ::
((nat_lit 137), (Obj.mk (Value.type "tuple") (@none Nat) (Data.seq #[] (0 : Nat)) #[])) ::
((nat_lit 139), (Obj.mk (Value.type "code") (@none Nat) (Data.fields #[(Value.str (Str.ofString "is_net") (364 : Nat)), (Value.str (Str.ofString "Signal.is_net") (365 : Nat)), (Value.str (Str.ofString "/claim/cut.py") (366 : Nat)), (Value.int 103 (0 : Nat)), (Value.int 1 (0 : Nat)), (Value.int 0 (0 : Nat)), (Value.int 0 (0 : Nat)), (Value.int 3 (0 : Nat)), (Value.ref (134 : Nat)), (Value.bool Bool.true), (Value.int 181 (0 : Nat)), (Value.ref (135 : Nat)), PySem.Value.none, (Value.ref (136 : Nat)), (Value.ref (137 : Nat)), (Value.ref (138 : Nat)), (Value.int 368 (0 : Nat)), (Value.int 103 (0 : Nat)), (Value.str (Str.ofString "/claim/cut.py") (369 : Nat))]) #[])) ::
((nat_lit 140), (Obj.mk (Value.type "function") (@none Nat) (Data.func (FuncData.mk (Str.ofString "is_net") (Str.ofString "Signal.is_net") p14 (FuncBody.stmts b14) s14 (3 : Nat) (@List.nil (PySem.Str × Nat)) PySem.Value.none PySem.Value.none PySem.Value.none (Value.str (Str.ofString "gateloom.design") (330 : Nat)) (@none Nat) (Value.ref (139 : Nat)) PySem.Value.none (0 : Nat))) #[])) ::
((nat_lit 141), (Obj.mk (Value.type "tuple") (@none Nat) (Data.seq #[] (0 : Nat)) #[])) ::
((nat_lit 143), (Obj.mk (Value.type "tuple") (@none Nat) (Data.seq #[(Value.str (Str.ofString "self") (374 : Nat))] (0 : Nat)) #[])) ::
((nat_lit 144), (Obj.mk (Value.type "tuple") (@none Nat) (Data.seq #[] (0 : Nat)) #[])) ::
((nat_lit 146), (Obj.mk (Value.type "code") (@none Nat) (Data.fields #[(Value.str (Str.ofString "is_memory") (371 : Nat)), (Value.str (Str.ofString "Signal.is_memory") (372 : Nat)), (Value.str (Str.ofString "/claim/cut.py") (373 : Nat)), (Value.int 106 (0 : Nat)), (Value.int 1 (0 : Nat)), (Value.int 0 (0 : Nat)), (Value.int 0 (0 : Nat)), (Value.int 3 (0 : Nat)), (Value.ref (141 : Nat)), (Value.bool Bool.true), (Value.int 181 (0 : Nat)), (Value.ref (142 : Nat)), PySem.Value.none, (Value.ref (143 : Nat)), (Value.ref (144 : Nat)), (Value.ref (145 : Nat)), (Value.int 375 (0 : Nat)), (Value.int 106 (0 : Nat)), (Value.str (Str.ofString "/claim/cut.py") (376 : Nat))]) #[])) ::
((nat_lit 147), (Obj.mk (Value.type "function") (@none Nat) (Data.func (FuncData.mk (Str.ofString "is_memory") (Str.ofString "Signal.is_memory") p15 (FuncBody.stmts b15) s15 (3 : Nat) (@List.nil (PySem.Str × Nat)) PySem.Value.none PySem.Value.none PySem.Value.none (Value.str (Str.ofString "gateloom.design") (330 : Nat)) (@none Nat) (Value.ref (146 : Nat)) PySem.Value.none (0 : Nat))) #[])) ::
((nat_lit 148), (Obj.mk (Value.type "tuple") (@none Nat) (Data.seq #[] (0 : Nat)) #[])) ::
((nat_lit 150), (Obj.mk (Value.type "tuple") (@none Nat) (Data.seq #[(Value.str (Str.ofString "self") (381 : Nat))] (0 : Nat)) #[])) ::
((nat_lit 151), (Obj.mk (Value.type "tuple") (@none Nat) (Data.seq #[] (0 : Nat)) #[])) ::
((nat_lit 153), (Obj.mk (Value.type "code") (@none Nat) (Data.fields #[(Value.str (Str.ofString "words") (378 : Nat)), (Value.str (Str.ofString "Signal.words") (379 : Nat)), (Value.str (Str.ofString "/claim/cut.py") (380 : Nat)), (Value.int 109 (0 : Nat)), (Value.int 1 (0 : Nat)), (Value.int 0 (0 : Nat)), (Value.int 0 (0 : Nat)), (Value.int 3 (0 : Nat)), (Value.ref (148 : Nat)), (Value.bool Bool.true), (Value.int 181 (0 : Nat)), (Value.ref (149 : Nat)), PySem.Value.none, (Value.ref (150 : Nat)), (Value.ref (151 : Nat)), (Value.ref (152 : Nat)), (Value.int 382 (0 : Nat)), (Value.int 109 (0 : Nat)), (Value.str (Str.ofString "/claim/cut.py") (383 : Nat))]) #[])) ::
((nat_lit 154), (Obj.mk (Value.type "function") (@none Nat) (Data.func (FuncData.mk (Str.ofString "words") (Str.ofString "Signal.words") p16 (FuncBody.stmts b16) s16 (3 : Nat) (@List.nil (PySem.Str × Nat)) PySem.Value.none PySem.Value.none PySem.Value.none (Value.str (Str.ofString "gateloom.design") (330 : Nat)) (@none Nat) (Value.ref (153 : Nat)) PySem.Value.none (0 : Nat))) #[])) ::
((nat_lit 155), (Obj.mk (Value.type "tuple") (@none Nat) (Data.seq #[] (0 : Nat)) #[])) ::
((nat_lit 157), (Obj.mk (Value.type "tuple") (@none Nat) (Data.seq #[(Value.str (Str.ofString "self") (388 : Nat)), (Value.str (Str.ofString "index") (389 : Nat))] (0 : Nat)) #[])) ::
((nat_lit 158), (Obj.mk (Value.type "tuple") (@none Nat) (Data.seq #[] (0 : Nat)) #[])) ::
((nat_lit 160), (Obj.mk (Value.type "code") (@none Nat) (Data.fields #[(Value.str (Str.ofString "offset") (385 : Nat)), (Value.str (Str.ofString "Signal.offset") (386 : Nat)), (Value.str (Str.ofString "/claim/cut.py") (387 : Nat)), (Value.int 114 (0 : Nat)), (Value.int 2 (0 : Nat)), (Value.int 0 (0 : Nat)), (Value.int 0 (0 : Nat)), (Value.int 3 (0 : Nat)), (Value.ref (155 : Nat)), (Value.bool Bool.true), (Value.int 181 (0 : Nat)), (Value.ref (156 : Nat)), PySem.Value.none, (Value.ref (157 : Nat)), (Value.ref (158 : Nat)), (Value.ref (159 : Nat)), (Value.int 390 (0 : Nat)), (Value.int 114 (0 : Nat)), (Value.str (Str.ofString "/claim/cut.py") (391 : Nat))]) #[])) ::
((nat_lit 161), (Obj.mk (Value.type "function") (@none Nat) (Data.func (FuncData.mk (Str.ofString "offset") (Str.ofString "Signal.offset") p17 (FuncBody.stmts b17) s17 (3 : Nat) (@List.nil (PySem.Str × Nat)) PySem.Value.none PySem.Value.none PySem.Value.none (Value.str (Str.ofString "gateloom.design") (330 : Nat)) (@none Nat) (Value.ref (160 : Nat)) PySem.Value.none (0 : Nat))) #[])) ::
((nat_lit 162), (Obj.mk (Value.type "tuple") (@none Nat) (Data.seq #[] (0 : Nat)) #[])) ::
((nat_lit 164), (Obj.mk (Value.type "tuple") (@none Nat) (Data.seq #[(Value.str (Str.ofString "self") (396 : Nat)), (Value.str (Str.ofString "index") (397 : Nat)), (Value.str (Str.ofString "place") (398 : Nat))] (0 : Nat)) #[])) ::
((nat_lit 165), (Obj.mk (Value.type "tuple") (@none Nat) (Data.seq #[] (0 : Nat)) #[])) ::
((nat_lit 167), (Obj.mk (Value.type "code") (@none Nat) (Data.fields #[(Value.str (Str.ofString "place") (393 : Nat)), (Value.str (Str.ofString "Signal.place") (394 : Nat)), (Value.str (Str.ofString "/claim/cut.py") (395 : Nat)), (Value.int 117 (0 : Nat)), (Value.int 2 (0 : Nat)), (Value.int 0 (0 : Nat)), (Value.int 0 (0 : Nat)), (Value.int 3 (0 : Nat)), (Value.ref (162 : Nat)), (Value.bool Bool.true), (Value.int 181 (0 : Nat)), (Value.ref (163 : Nat)), PySem.Value.none, (Value.ref (164 : Nat)), (Value.ref (165 : Nat)), (Value.ref (166 : Nat)), (Value.int 399 (0 : Nat)), (Value.int 117 (0 : Nat)), (Value.str (Str.ofString "/claim/cut.py") (400 : Nat))]) #[])) ::
((nat_lit 168), (Obj.mk (Value.type "function") (@none Nat) (Data.func (FuncData.mk (Str.ofString "place") (Str.ofString "Signal.place") p18 (FuncBody.stmts b18) s18 (3 : Nat) (@List.nil (PySem.Str × Nat)) PySem.Value.none PySem.Value.none PySem.Value.none (Value.str (Str.ofString "gateloom.design") (330 : Nat)) (@none Nat) (Value.ref (167 : Nat)) PySem.Value.none (0 : Nat))) #[])) ::
((nat_lit 169), (Obj.mk (Value.type "tuple") (@none Nat) (Data.seq #[(Value.str (Str.ofString "at") (402 : Nat)), (Value.str (Str.ofString "first") (403 : Nat)), (Value.str (Str.ofString "init") (404 : Nat)), (Value.str (Str.ofString "key") (405 : Nat)), (Value.str (Str.ofString "kind") (406 : Nat)), (Value.str (Str.ofString "last") (407 : Nat)), (Value.str (Str.ofString "lsb") (408 : Nat)), (Value.str (Str.ofString "msb") (409 : Nat)), (Value.str (Str.ofString "path") (410 : Nat)), (Value.str (Str.ofString "scalar") (411 : Nat)), (Value.str (Str.ofString "signed") (412 : Nat)), (Value.str (Str.ofString "width") (413 : Nat))] (0 : Nat)) #[])) ::
((nat_lit 170), (Obj.mk (Value.type "dict") (@none Nat) (Data.dict #[(DictEntry.mk (PyData.keyHash P (Str.ofString "__module__")) (Value.str (Str.ofString "__module__") (345 : Nat)) (Value.str (Str.ofString "gateloom.design") (330 : Nat))), (DictEntry.mk (PyData.keyHash P (Str.ofString "__firstlineno__")) (Value.str (Str.ofString "__firstlineno__") (349 : Nat)) (Value.int 87 (348 : Nat))), (DictEntry.mk (PyData.keyHash P (Str.ofString "__init__")) (Value.str (Str.ofString "__init__") (363 : Nat)) (Value.ref (133 : Nat))), (DictEntry.mk (PyData.keyHash P (Str.ofString "is_net")) (Value.str (Str.ofString "is_net") (370 : Nat)) (Value.ref (140 : Nat))), (DictEntry.mk (PyData.keyHash P (Str.ofString "is_memory")) (Value.str (Str.ofString "is_memory") (377 : Nat)) (Value.ref (147 : Nat))), (DictEntry.mk (PyData.keyHash P (Str.ofString "words")) (Value.str (Str.ofString "words") (384 : Nat)) (Value.ref (154 : Nat))), (DictEntry.mk (PyData.keyHash P (Str.ofString "offset")) (Value.str (Str.ofString "offset") (392 : Nat)) (Value.ref (161 : Nat))), (DictEntry.mk (PyData.keyHash P (Str.ofString "place")) (Value.str (Str.ofString "place") (401 : Nat)) (Value.ref (168 : Nat))), (DictEntry.mk (PyData.keyHash P (Str.ofString "__static_attributes__")) (Value.str (Str.ofString "__static_attributes__") (414 : Nat)) (Value.ref (169 : Nat))), (DictEntry.mk (PyData.keyHash P (Str.ofString "__dict__")) (Value.str (Str.ofString "__dict__") (416 : Nat)) (Value.ref (172 : Nat))), (DictEntry.mk (PyData.keyHash P (Str.ofString "__weakref__")) (Value.str (Str.ofString "__weakref__") (418 : Nat)) (Value.ref (173 : Nat))), (DictEntry.mk (PyData.keyHash P (Str.ofString "__doc__")) (Value.str (Str.ofString "__doc__") (419 : Nat)) PySem.Value.none)] (4 : Nat)) #[])) ::
((nat_lit 171), (Obj.mk (Value.type "type") (@none Nat) (Data.cls (ClassData.mk (Str.ofString "Signal") [(Value.type "object")] [(Value.ref (171 : Nat)), (Value.type "object")] (170 : Nat) (Str.ofString "Signal") Bool.true [] [] Bool.false none Bool.false)) #[none, none, (some (Value.str (Str.ofString "Signal") (338 : Nat))), (some (Value.str (Str.ofString "Signal") (346 : Nat))), (some (Value.builtin "object.__new__")), (some (Value.bool Bool.true))])) ::
((nat_lit 172), (Obj.mk (Value.type "getset_descriptor") (@none Nat) (Data.fields #[(Value.str (Str.ofString "__dict__") (415 : Nat)), (Value.ref (171 : Nat)), (Value.builtin "function.__dict__"), (Value.builtin "function.__dict__#set")]) #[])) ::
((nat_lit 173), (Obj.mk (Value.type "getset_descriptor") (@none Nat) (Data.fields #[(Value.str (Str.ofString "__weakref__") (417 : Nat)), (Value.ref (171 : Nat)), (Value.builtin "ExceptionGroup.__weakref__"), PySem.Value.none]) #[])) ::
((nat_lit 183), (Obj.mk (Value.type "tuple") (@none Nat) (Data.seq #[] (0 : Nat)) #[])) ::
((nat_lit 185), (Obj.mk (Value.type "tuple") (@none Nat) (Data.seq #[(Value.str (Str.ofString "self") (437 : Nat))] (0 : Nat)) #[])) ::
((nat_lit 186), (Obj.mk (Value.type "tuple") (@none Nat) (Data.seq #[] (0 : Nat)) #[])) ::
((nat_lit 188), (Obj.mk (Value.type "code") (@none Nat) (Data.fields #[(Value.str (Str.ofString "__init__") (434 : Nat)), (Value.str (Str.ofString "Design.__init__") (435 : Nat)), (Value.str (Str.ofString "/claim/cut.py") (436 : Nat)), (Value.int 129 (0 : Nat)), (Value.int 1 (0 : Nat)), (Value.int 0 (0 : Nat)), (Value.int 0 (0 : Nat)), (Value.int 3 (0 : Nat)), (Value.ref (183 : Nat)), (Value.bool Bool.true), (Value.int 181 (0 : Nat)), (Value.ref (184 : Nat)), PySem.Value.none, (Value.ref (185 : Nat)), (Value.ref (186 : Nat)), (Value.ref (187 : Nat)), (Value.int 438 (0 : Nat)), (Value.int 129 (0 : Nat)), (Value.str (Str.ofString "/claim/cut.py") (439 : Nat))]) #[])) ::
((nat_lit 189), (Obj.mk (Value.type "function") (@none Nat) (Data.func (FuncData.mk (Str.ofString "__init__") (Str.ofString "Design.__init__") p19 (FuncBody.stmts b19) s19 (3 : Nat) (@List.nil (PySem.Str × Nat)) PySem.Value.none PySem.Value.none PySem.Value.none (Value.str (Str.ofString "gateloom.design") (330 : Nat)) (@none Nat) (Value.ref (188 : Nat)) PySem.Value.none (0 : Nat))) #[])) ::
((nat_lit 190), (Obj.mk (Value.type "tuple") (@none Nat) (Data.seq #[] (0 : Nat)) #[])) ::
((nat_lit 192), (Obj.mk (Value.type "tuple") (@none Nat) (Data.seq #[(Value.str (Str.ofString "self") (444 : Nat)), (Value.str (Str.ofString "path") (445 : Nat)), (Value.str (Str.ofString "kind") (446 : Nat)), (Value.str (Str.ofString "width") (447 : Nat)), (Value.str (Str.ofString "signed") (448 : Nat)), (Value.str (Str.ofString "msb") (449 : Nat)), (Value.str (Str.ofString "lsb") (450 : Nat)), (Value.str (Str.ofString "at") (451 : Nat)), (Value.str (Str.ofString "signal") (452 : Nat))] (0 : Nat)) #[])) ::
((nat_lit 193), (Obj.mk (Value.type "tuple") (@none Nat) (Data.seq #[] (0 : Nat)) #[])) ::
((nat_lit 195), (Obj.mk (Value.type "code") (@none Nat) (Data.fields #[(Value.str (Str.ofString "add_signal") (441 : Nat)), (Value.str (Str.ofString "Design.add_signal") (442 : Nat)), (Value.str (Str.ofString "/claim/cut.py") (443 : Nat)), (Value.int 143 (0 : Nat)), (Value.int 8 (0 : Nat)), (Value.int 0 (0 : Nat)), (Value.int 0 (0 : Nat)), (Value.int 3 (0 : Nat)), (Value.ref (190 : Nat)), (Value.bool Bool.true), (Value.int 181 (0 : Nat)), (Value.ref (191 : Nat)), PySem.Value.none, (Value.ref (192 : Nat)), (Value.ref (193 : Nat)), (Value.ref (194 : Nat)), (Value.int 453 (0 : Nat)), (Value.int 143 (0 : Nat)), (Value.str (Str.ofString "/claim/cut.py") (454 : Nat))]) #[])) ::
((nat_lit 196), (Obj.mk (Value.type "function") (@none Nat) (Data.func (FuncData.mk (Str.ofString "add_signal") (Str.ofString "Design.add_signal") p20 (FuncBody.stmts b20) s20 (3 : Nat) (@List.nil (PySem.Str × Nat)) PySem.Value.none PySem.Value.none PySem.Value.none (Value.str (Str.ofString "gateloom.design") (330 : Nat)) (@none Nat) (Value.ref (195 : Nat)) PySem.Value.none (0 : Nat))) #[])) ::
((nat_lit 197), (Obj.mk (Value.type "tuple") (@none Nat) (Data.seq #[] (0 : Nat)) #[])) ::
((nat_lit 199), (Obj.mk (Value.type "tuple") (@none Nat) (Data.seq #[(Value.str (Str.ofString "self") (459 : Nat)), (Value.str (Str.ofString "path") (460 : Nat))] (0 : Nat)) #[])) ::
((nat_lit 200), (Obj.mk (Value.type "tuple") (@none Nat) (Data.seq #[] (0 : Nat)) #[])) ::
((nat_lit 202), (Obj.mk (Value.type "code") (@none Nat) (Data.fields #[(Value.str (Str.ofString "add_scope") (456 : Nat)), (Value.str (Str.ofString "Design.add_scope") (457 : Nat)), (Value.str (Str.ofString "/claim/cut.py") (458 : Nat)), (Value.int 150 (0 : Nat)), (Value.int 2 (0 : Nat)), (Value.int 0 (0 : Nat)), (Value.int 0 (0 : Nat)), (Value.int 3 (0 : Nat)), (Value.ref (197 : Nat)), (Value.bool Bool.true), (Value.int 181 (0 : Nat)), (Value.ref (198 : Nat)), PySem.Value.none, (Value.ref (199 : Nat)), (Value.ref (200 : Nat)), (Value.ref (201 : Nat)), (Value.int 461 (0 : Nat)), (Value.int 150 (0 : Nat)), (Value.str (Str.ofString "/claim/cut.py") (462 : Nat))]) #[])) ::
((nat_lit 203), (Obj.mk (Value.type "function") (@none Nat) (Data.func (FuncData.mk (Str.ofString "add_scope") (Str.ofString "Design.add_scope") p21 (FuncBody.stmts b21) s21 (3 : Nat) (@List.nil (PySem.Str × Nat)) PySem.Value.none PySem.Value.none PySem.Value.none (Value.str (Str.ofString "gateloom.design") (330 : Nat)) (@none Nat) (Value.ref (202 : Nat)) PySem.Value.none (0 : Nat))) #[])) ::
((nat_lit 204), (Obj.mk (Value.type "tuple") (@none Nat) (Data.seq #[] (0 : Nat)) #[])) ::
((nat_lit 206), (Obj.mk (Value.type "tuple") (@none Nat) (Data.seq #[(Value.str (Str.ofString "self") (467 : Nat)), (Value.str (Str.ofString "path") (468 : Nat)), (Value.str (Str.ofString "is_function") (469 : Nat)), (Value.str (Str.ofString "automatic") (470 : Nat)), (Value.str (Str.ofString "at") (471 : Nat))] (0 : Nat)) #[])) ::
((nat_lit 207), (Obj.mk (Value.type "tuple") (@none Nat) (Data.seq #[] (0 : Nat)) #[])) ::
((nat_lit 209), (Obj.mk (Value.type "code") (@none Nat) (Data.fields #[(Value.str (Str.ofString "add_routine") (464 : Nat)), (Value.str (Str.ofString "Design.add_routine") (465 : Nat)), (Value.str (Str.ofString "/claim/cut.py") (466 : Nat)), (Value.int 153 (0 : Nat)), (Value.int 5 (0 : Nat)), (Value.int 0 (0 : Nat)), (Value.int 0 (0 : Nat)), (Value.int 3 (0 : Nat)), (Value.ref (204 : Nat)), (Value.bool Bool.true), (Value.int 181 (0 : Nat)), (Value.ref (205 : Nat)), PySem.Value.none, (Value.ref (206 : Nat)), (Value.ref (207 : Nat)), (Value.ref (208 : Nat)), (Value.int 472 (0 : Nat)), (Value.int 153 (0 : Nat)), (Value.str (Str.ofString "/claim/cut.py") (473 : Nat))]) #[])) ::
((nat_lit 210), (Obj.mk (Value.type "function") (@none Nat) (Data.func (FuncData.mk (Str.ofString "add_routine") (Str.ofString "Design.add_routine") p22 (FuncBody.stmts b22) s22 (3 : Nat) (@List.nil (PySem.Str × Nat)) PySem.Value.none PySem.Value.none PySem.Value.none (Value.str (Str.ofString "gateloom.design") (330 : Nat)) (@none Nat) (Value.ref (209 : Nat)) PySem.Value.none (0 : Nat))) #[])) ::
((nat_lit 211), (Obj.mk (Value.type "tuple") (@none Nat) (Data.seq #[] (0 : Nat)) #[])) ::
((nat_lit 213), (Obj.mk (Value.type "tuple") (@none Nat) (Data.seq #[(Value.str (Str.ofString "self") (478 : Nat)), (Value.str (Str.ofString "kind") (479 : Nat)), (Value.str (Str.ofString "body") (480 : Nat)), (Value.str (Str.ofString "path") (481 : Nat)), (Value.str (Str.ofString "at") (482 : Nat))] (0 : Nat)) #[])) ::
((nat_lit 214), (Obj.mk (Value.type "tuple") (@none Nat) (Data.seq #[] (0 : Nat)) #[])) ::
((nat_lit 216), (Obj.mk (Value.type "code") (@none Nat) (Data.fields #[(Value.str (Str.ofString "add_process") (475 : Nat)), (Value.str (Str.ofString "Design.add_process") (476 : Nat)), (Value.str (Str.ofString "/claim/cut.py") (477 : Nat)), (Value.int 156 (0 : Nat)), (Value.int 5 (0 : Nat)), (Value.int 0 (0 : Nat)), (Value.int 0 (0 : Nat)), (Value.int 3 (0 : Nat)), (Value.ref (211 : Nat)), (Value.bool Bool.true), (Value.int 181 (0 : Nat)), (Value.ref (212 : Nat)), PySem.Value.none, (Value.ref (213 : Nat)), (Value.ref (214 : Nat)), (Value.ref (215 : Nat)), (Value.int 483 (0 : Nat)), (Value.int 156 (0 : Nat)), (Value.str (Str.ofString "/claim/cut.py") (484 : Nat))]) #[])) ::
((nat_lit 217), (Obj.mk (Value.type "function") (@none Nat) (Data.func (FuncData.mk (Str.ofString "add_process") (Str.ofString "Design.add_process") p23 (FuncBody.stmts b23) s23 (3 : Nat) (@List.nil (PySem.Str × Nat)) PySem.Value.none PySem.Value.none PySem.Value.none (Value.str (Str.ofString "gateloom.design") (330 : Nat)) (@none Nat) (Value.ref (216 : Nat)) PySem.Value.none (0 : Nat))) #[])) ::
((nat_lit 218), (Obj.mk (Value.type "tuple") (@none Nat) (Data.seq #[] (0 : Nat)) #[])) ::
((nat_lit 220), (Obj.mk (Value.type "tuple") (@none Nat) (Data.seq #[(Value.str (Str.ofString "self") (489 : Nat)), (Value.str (Str.ofString "path") (490 : Nat))] (0 : Nat)) #[])) ::
((nat_lit 221), (Obj.mk (Value.type "tuple") (@none Nat) (Data.seq #[] (0 : Nat)) #[])) ::
((nat_lit 223), (Obj.mk (Value.type "code") (@none Nat) (Data.fields #[(Value.str (Str.ofString "find") (486 : Nat)), (Value.str (Str.ofString "Design.find") (487 : Nat)), (Value.str (Str.ofString "/claim/cut.py") (488 : Nat)), (Value.int 159 (0 : Nat)), (Value.int 2 (0 : Nat)), (Value.int 0 (0 : Nat)), (Value.int 0 (0 : Nat)), (Value.int 3 (0 : Nat)), (Value.ref (218 : Nat)), (Value.bool Bool.true), (Value.int 181 (0 : Nat)), (Value.ref (219 : Nat)), PySem.Value.none, (Value.ref (220 : Nat)), (Value.ref (221 : Nat)), (Value.ref (222 : Nat)), (Value.int 491 (0 : Nat)), (Value.int 159 (0 : Nat)), (Value.str (Str.ofString "/claim/cut.py") (492 : Nat))]) #[])) ::
((nat_lit 224), (Obj.mk (Value.type "function") (@none Nat) (Data.func (FuncData.mk (Str.ofString "find") (Str.ofString "Design.find") p24 (FuncBody.stmts b24) s24 (3 : Nat) (@List.nil (PySem.Str × Nat)) PySem.Value.none PySem.Value.none PySem.Value.none (Value.str (Str.ofString "gateloom.design") (330 : Nat)) (@none Nat) (Value.ref (223 : Nat)) PySem.Value.none (0 : Nat))) #[])) ::
((nat_lit 225), (Obj.mk (Value.type "tuple") (@none Nat) (Data.seq #[] (0 : Nat)) #[])) ::
((nat_lit 227), (Obj.mk (Value.type "tuple") (@none Nat) (Data.seq #[(Value.str (Str.ofString "self") (497 : Nat)), (Value.str (Str.ofString "n") (498 : Nat))] (0 : Nat)) #[])) ::
((nat_lit 228), (Obj.mk (Value.type "tuple") (@none Nat) (Data.seq #[] (0 : Nat)) #[])) ::
((nat_lit 230), (Obj.mk (Value.type "code") (@none Nat) (Data.fields #[(Value.str (Str.ofString "routine") (494 : Nat)), (Value.str (Str.ofString "Design.routine") (495 : Nat)), (Value.str (Str.ofString "/claim/cut.py") (496 : Nat)), (Value.int 162 (0 : Nat)), (Value.int 2 (0 : Nat)), (Value.int 0 (0 : Nat)), (Value.int 0 (0 : Nat)), (Value.int 3 (0 : Nat)), (Value.ref (225 : Nat)), (Value.bool Bool.true), (Value.int 181 (0 : Nat)), (Value.ref (226 : Nat)), PySem.Value.none, (Value.ref (227 : Nat)), (Value.ref (228 : Nat)), (Value.ref (229 : Nat)), (Value.int 499 (0 : Nat)), (Value.int 162 (0 : Nat)), (Value.str (Str.ofString "/claim/cut.py") (500 : Nat))]) #[])) ::
((nat_lit 231), (Obj.mk (Value.type "function") (@none Nat) (Data.func (FuncData.mk (Str.ofString "routine") (Str.ofString "Design.routine") p25 (FuncBody.stmts b25) s25 (3 : Nat) (@List.nil (PySem.Str × Nat)) PySem.Value.none PySem.Value.none PySem.Value.none (Value.str (Str.ofString "gateloom.design") (330 : Nat)) (@none Nat) (Value.ref (230 : Nat)) PySem.Value.none (0 : Nat))) #[])) ::
((nat_lit 232), (Obj.mk (Value.type "tuple") (@none Nat) (Data.seq #[(Value.str (Str.ofString "assigns") (502 : Nat)), (Value.str (Str.ofString "by_path") (503 : Nat)), (Value.str (Str.ofString "gates") (504 : Nat)), (Value.str (Str.ofString "maker") (505 : Nat)), (Value.str (Str.ofString "nesting") (506 : Nat)), (Value.str (Str.ofString "ports") (507 : Nat)), (Value.str (Str.ofString "processes") (508 : Nat)), (Value.str (Str.ofString "routines") (509 : Nat)), (Value.str (Str.ofString "scopes") (510 : Nat)), (Value.str (Str.ofString "signals") (511 : Nat)), (Value.str (Str.ofString "tops") (512 : Nat)), (Value.str (Str.ofString "udps") (513 : Nat))] (0 : Nat)) #[])) ::
((nat_lit 233), (Obj.mk (Value.type "dict") (@none Nat) (Data.dict #[(DictEntry.mk (PyData.keyHash P (Str.ofString "__module__")) (Value.str (Str.ofString "__module__") (429 : Nat)) (Value.str (Str.ofString "gateloom.design") (330 : Nat))), (DictEntry.mk (PyData.keyHash P (Str.ofString "__firstlineno__")) (Value.str (Str.ofString "__firstlineno__") (433 : Nat)) (Value.int 127 (432 : Nat))), (DictEntry.mk (PyData.keyHash P (Str.ofString "__init__")) (Value.str (Str.ofString "__init__") (440 : Nat)) (Value.ref (189 : Nat))), (DictEntry.mk (PyData.keyHash P (Str.ofString "add_signal")) (Value.str (Str.ofString "add_signal") (455 : Nat)) (Value.ref (196 : Nat))), (DictEntry.mk (PyData.keyHash P (Str.ofString "add_scope")) (Value.str (Str.ofString "add_scope") (463 : Nat)) (Value.ref (203 : Nat))), (DictEntry.mk (PyData.keyHash P (Str.ofString "add_routine")) (Value.str (Str.ofString "add_routine") (474 : Nat)) (Value.ref (210 : Nat))), (DictEntry.mk (PyData.keyHash P (Str.ofString "add_process")) (Value.str (Str.ofString "add_process") (485 : Nat)) (Value.ref (217 : Nat))), (DictEntry.mk (PyData.keyHash P (Str.ofString "find")) (Value.str (Str.ofString "find") (493 : Nat)) (Value.ref (224 : Nat))), (DictEntry.mk (PyData.keyHash P (Str.ofString "routine")) (Value.str (Str.ofString "routine") (501 : Nat)) (Value.ref (231 : Nat))), (DictEntry.mk (PyData.keyHash P (Str.ofString "__static_attributes__")) (Value.str (Str.ofString "__static_attributes__") (514 : Nat)) (Value.ref (232 : Nat))), (DictEntry.mk (PyData.keyHash P (Str.ofString "__dict__")) (Value.str (Str.ofString "__dict__") (516 : Nat)) (Value.ref (235 : Nat))), (DictEntry.mk (PyData.keyHash P (Str.ofString "__weakref__")) (Value.str (Str.ofString "__weakref__") (518 : Nat)) (Value.ref (236 : Nat))), (DictEntry.mk (PyData.keyHash P (Str.ofString "__doc__")) (Value.str (Str.ofString "__doc__") (519 : Nat)) PySem.Value.none)] (4 : Nat)) #[])) ::
((nat_lit 234), (Obj.mk (Value.type "type") (@none Nat) (Data.cls (ClassData.mk (Str.ofString "Design") [(Value.type "object")] [(Value.ref (234 : Nat)), (Value.type "object")] (233 : Nat) (Str.ofString "Design") Bool.true [] [] Bool.false none Bool.false)) #[none, none, (some (Value.str (Str.ofString "Design") (422 : Nat))), (some (Value.str (Str.ofString "Design") (430 : Nat))), (some (Value.builtin "object.__new__")), (some (Value.bool Bool.true))])) ::
((nat_lit 235), (Obj.mk (Value.type "getset_descriptor") (@none Nat) (Data.fields #[(Value.str (Str.ofString "__dict__") (515 : Nat)), (Value.ref (234 : Nat)), (Value.builtin "function.__dict__"), (Value.builtin "function.__dict__#set")]) #[])) ::
((nat_lit 236), (Obj.mk (Value.type "getset_descriptor") (@none Nat) (Data.fields #[(Value.str (Str.ofString "__weakref__") (517 : Nat)), (Value.ref (234 : Nat)), (Value.builtin "ExceptionGroup.__weakref__"), PySem.Value.none]) #[])) ::
((nat_lit 239), (Obj.mk (Value.type "tuple") (@none Nat) (Data.seq #[] (0 : Nat)) #[])) ::
((nat_lit 241), (Obj.mk (Value.type "tuple") (@none Nat) (Data.seq #[(Value.str (Str.ofString "source") (527 : Nat)), (Value.str (Str.ofString "most") (528 : Nat)), (Value.str (Str.ofString "found") (529 : Nat))] (0 : Nat)) #[])) ::
((nat_lit 242), (Obj.mk (Value.type "tuple") (@none Nat) (Data.seq #[] (0 : Nat)) #[])) ::
((nat_lit 244), (Obj.mk (Value.type "code") (@none Nat) (Data.fields #[(Value.str (Str.ofString "_law_take") (524 : Nat)), (Value.str (Str.ofString "_law_take") (525 : Nat)), (Value.str (Str.ofString "/claim/cut.py") (526 : Nat)), (Value.int 165 (0 : Nat)), (Value.int 2 (0 : Nat)), (Value.int 0 (0 : Nat)), (Value.int 0 (0 : Nat)), (Value.int 3 (0 : Nat)), (Value.ref (239 : Nat)), (Value.bool Bool.true), (Value.int 181 (0 : Nat)), (Value.ref (240 : Nat)), PySem.Value.none, (Value.ref (241 : Nat)), (Value.ref (242 : Nat)), (Value.ref (243 : Nat)), (Value.int 530 (0 : Nat)), (Value.int 165 (0 : Nat)), (Value.str (Str.ofString "/claim/cut.py") (531 : Nat))]) #[])) ::
((nat_lit 245), (Obj.mk (Value.type "function") (@none Nat) (Data.func (FuncData.mk (Str.ofString "_law_take") (Str.ofString "_law_take") p26 (FuncBody.stmts b26) s26 (3 : Nat) (@List.nil (PySem.Str × Nat)) PySem.Value.none PySem.Value.none PySem.Value.none (Value.str (Str.ofString "law_pq0454_01") (522 : Nat)) (@none Nat) (Value.ref (244 : Nat)) PySem.Value.none (0 : Nat))) #[])) ::
((nat_lit 246), (Obj.mk (Value.type "tuple") (@none Nat) (Data.seq #[] (0 : Nat)) #[])) ::
((nat_lit 249), (Obj.mk (Value.type "code") (@none Nat) (Data.fields #[(Value.str (Str.ofString "law") (533 : Nat)), (Value.str (Str.ofString "law") (534 : Nat)), (Value.str (Str.ofString "/claim/cut.py") (535 : Nat)), (Value.int 173 (0 : Nat)), (Value.int 1 (0 : Nat)), (Value.int 0 (0 : Nat)), (Value.int 0 (0 : Nat)), (Value.int 3 (0 : Nat)), (Value.ref (246 : Nat)), (Value.bool Bool.true), (Value.int 181 (0 : Nat)), (Value.ref (247 : Nat)), PySem.Value.none, PySem.Value.none, PySem.Value.none, (Value.ref (248 : Nat)), (Value.int 536 (0 : Nat)), (Value.int 173 (0 : Nat)), (Value.str (Str.ofString "/claim/cut.py") (537 : Nat))]) #[])) ::
((nat_lit 250), (Obj.mk (Value.type "function") (@none Nat) (Data.func (FuncData.mk (Str.ofString "law") (Str.ofString "law") p27 (FuncBody.stmts b27) s27 (3 : Nat) (@List.nil (PySem.Str × Nat)) PySem.Value.none PySem.Value.none PySem.Value.none (Value.str (Str.ofString "law_pq0454_01") (522 : Nat)) (@none Nat) (Value.ref (249 : Nat)) PySem.Value.none (0 : Nat))) #[])) :: []) : List (Nat × Obj))

set_option maxRecDepth 100000 in
noncomputable def hd.heapF : Params → Heap := by
  refine' (?f : (p0 : Arguments) → (b0 : List Stmt) → (s0 : Scope) → (p1 : Arguments) → (b1 : List Stmt) → (s1 : Scope) → (p2 : Arguments) → (b2 : List Stmt) → (s2 : Scope) → (p3 : Arguments) → (b3 : List Stmt) → (s3 : Scope) → (p4 : Arguments) → (b4 : List Stmt) → (s4 : Scope) → (p5 : Arguments) → (b5 : List Stmt) → (s5 : Scope) → (p6 : Arguments) → (b6 : List Stmt) → (s6 : Scope) → (p7 : Arguments) → (b7 : List Stmt) → (s7 : Scope) → (p8 : Arguments) → (b8 : List Stmt) → (s8 : Scope) → (p9 : Arguments) → (b9 : List Stmt) → (s9 : Scope) → (p10 : Arguments) → (b10 : List Stmt) → (s10 : Scope) → (p11 : Arguments) → (b11 : List Stmt) → (s11 : Scope) → (p12 : Arguments) → (b12 : List Stmt) → (s12 : Scope) → (p13 : Arguments) → (b13 : List Stmt) → (s13 : Scope) → (p14 : Arguments) → (b14 : List Stmt) → (s14 : Scope) → (p15 : Arguments) → (b15 : List Stmt) → (s15 : Scope) → (p16 : Arguments) → (b16 : List Stmt) → (s16 : Scope) → (p17 : Arguments) → (b17 : List Stmt) → (s17 : Scope) → (p18 : Arguments) → (b18 : List Stmt) → (s18 : Scope) → (p19 : Arguments) → (b19 : List Stmt) → (s19 : Scope) → (p20 : Arguments) → (b20 : List Stmt) → (s20 : Scope) → (p21 : Arguments) → (b21 : List Stmt) → (s21 : Scope) → (p22 : Arguments) → (b22 : List Stmt) → (s22 : Scope) → (p23 : Arguments) → (b23 : List Stmt) → (s23 : Scope) → (p24 : Arguments) → (b24 : List Stmt) → (s24 : Scope) → (p25 : Arguments) → (b25 : List Stmt) → (s25 : Scope) → (p26 : Arguments) → (b26 : List Stmt) → (s26 : Scope) → (p27 : Arguments) → (b27 : List Stmt) → (s27 : Scope) → PySem.Challenge.pw_pq0454_01.main.body = [Stmt.FunctionDef _ p0 b0 _ _ _ s0 _ _ _, _, Stmt.FunctionDef _ p1 b1 _ _ _ s1 _ _ _, Stmt.FunctionDef _ p2 b2 _ _ _ s2 _ _ _, Stmt.FunctionDef _ p3 b3 _ _ _ s3 _ _ _, Stmt.FunctionDef _ p4 b4 _ _ _ s4 _ _ _, Stmt.FunctionDef _ p5 b5 _ _ _ s5 _ _ _, Stmt.FunctionDef _ p6 b6 _ _ _ s6 _ _ _, Stmt.FunctionDef _ p7 b7 _ _ _ s7 _ _ _, _, Stmt.ClassDef _ _ _ [Stmt.FunctionDef _ p8 b8 _ _ _ s8 _ _ _, Stmt.FunctionDef _ p9 b9 _ _ _ s9 _ _ _, Stmt.FunctionDef _ p10 b10 _ _ _ s10 _ _ _, Stmt.FunctionDef _ p11 b11 _ _ _ s11 _ _ _] _ _ _ _ _ _ _, _, Stmt.FunctionDef _ p12 b12 _ _ _ s12 _ _ _, Stmt.ClassDef _ _ _ [Stmt.FunctionDef _ p13 b13 _ _ _ s13 _ _ _, Stmt.FunctionDef _ p14 b14 _ _ _ s14 _ _ _, Stmt.FunctionDef _ p15 b15 _ _ _ s15 _ _ _, Stmt.FunctionDef _ p16 b16 _ _ _ s16 _ _ _, Stmt.FunctionDef _ p17 b17 _ _ _ s17 _ _ _, Stmt.FunctionDef _ p18 b18 _ _ _ s18 _ _ _] _ _ _ _ _ _ _, Stmt.ClassDef _ _ _ [Stmt.FunctionDef _ p19 b19 _ _ _ s19 _ _ _, Stmt.FunctionDef _ p20 b20 _ _ _ s20 _ _ _, Stmt.FunctionDef _ p21 b21 _ _ _ s21 _ _ _, Stmt.FunctionDef _ p22 b22 _ _ _ s22 _ _ _, Stmt.FunctionDef _ p23 b23 _ _ _ s23 _ _ _, Stmt.FunctionDef _ p24 b24 _ _ _ s24 _ _ _, Stmt.FunctionDef _ p25 b25 _ _ _ s25 _ _ _] _ _ _ _ _ _ _, _, Stmt.FunctionDef _ p26 b26 _ _ _ s26 _ _ _, Stmt.FunctionDef _ p27 b27 _ _ _ s27 _ _ _] → Params → Heap) ?p0 ?b0 ?s0 ?p1 ?b1 ?s1 ?p2 ?b2 ?s2 ?p3 ?b3 ?s3 ?p4 ?b4 ?s4 ?p5 ?b5 ?s5 ?p6 ?b6 ?s6 ?p7 ?b7 ?s7 ?p8 ?b8 ?s8 ?p9 ?b9 ?s9 ?p10 ?b10 ?s10 ?p11 ?b11 ?s11 ?p12 ?b12 ?s12 ?p13 ?b13 ?s13 ?p14 ?b14 ?s14 ?p15 ?b15 ?s15 ?p16 ?b16 ?s16 ?p17 ?b17 ?s17 ?p18 ?b18 ?s18 ?p19 ?b19 ?s19 ?p20 ?b20 ?s20 ?p21 ?b21 ?s21 ?p22 ?b22 ?s22 ?p23 ?b23 ?s23 ?p24 ?b24 ?s24 ?p25 ?b25 ?s25 ?p26 ?b26 ?s26 ?p27 ?b27 ?s27 ?w
  case w => exact rfl
  case f =>
    exact fun p0 b0 s0 p1 b1 s1 p2 b2 s2 p3 b3 s3 p4 b4 s4 p5 b5 s5 p6 b6 s6 p7 b7 s7 p8 b8 s8 p9 b9 s9 p10 b10 s10 p11 b11 s11 p12 b12 s12 p13 b13 s13 p14 b14 s14 p15 b15 s15 p16 b16 s16 p17 b17 s17 p18 b18 s18 p19 b19 s19 p20 b20 s20 p21 b21 s21 p22 b22 s22 p23 b23 s23 p24 b24 s24 p25 b25 s25 p26 b26 s26 p27 b27 s27 _ => fun P => Heap.mk (Array.mk (
(PySem.W.boot_o_0 P) ::
(PySem.W.boot_o_1 P) ::
(PySem.W.boot_o_2 P) ::
(Obj.mk (Value.type "dict") (@none Nat) (Data.dict #[(DictEntry.mk (PyData.keyHash P (Str.ofString "__name__")) (Value.str (Str.ofString "__name__") (165 : Nat)) (Value.str (Str.ofString "law_pq0454_01") (522 : Nat))), (DictEntry.mk (PyData.keyHash P (Str.ofString "__doc__")) (Value.str (Str.ofString "__doc__") (166 : Nat)) PySem.Value.none), (DictEntry.mk (PyData.keyHash P (Str.ofString "__package__")) (Value.str (Str.ofString "__package__") (167 : Nat)) PySem.Value.none), (DictEntry.mk (PyData.keyHash P (Str.ofString "__loader__")) (Value.str (Str.ofString "__loader__") (168 : Nat)) (Value.builtin "__main__.__loader__#opaque")), (DictEntry.mk (PyData.keyHash P (Str.ofString "__spec__")) (Value.str (Str.ofString "__spec__") (169 : Nat)) PySem.Value.none), (DictEntry.mk (PyData.keyHash P (Str.ofString "__annotations__")) (Value.str (Str.ofString "__annotations__") (170 : Nat)) (Value.ref (6 : Nat))), (DictEntry.mk (PyData.keyHash P (Str.ofString "__builtins__")) (Value.str (Str.ofString "__builtins__") (171 : Nat)) (Value.ref (4 : Nat))), (DictEntry.mk (PyData.keyHash P (Str.ofString "__file__")) (Value.str (Str.ofString "__file__") (173 : Nat)) (Value.str (Str.ofString "/claim/cut.py") (172 : Nat))), (DictEntry.mk (PyData.keyHash P (Str.ofString "__cached__")) (Value.str (Str.ofString "__cached__") (174 : Nat)) PySem.Value.none), (DictEntry.mk (PyData.keyHash P (Str.ofString "_wall")) (Value.str (Str.ofString "_wall") (193 : Nat)) (Value.ref (21 : Nat))), (DictEntry.mk (PyData.keyHash P (Str.ofString "mask")) (Value.str (Str.ofString "mask") (202 : Nat)) (Value.ref (28 : Nat))), (DictEntry.mk (PyData.keyHash P (Str.ofString "all_x")) (Value.str (Str.ofString "all_x") (210 : Nat)) (Value.ref (35 : Nat))), (DictEntry.mk (PyData.keyHash P (Str.ofString "all_z")) (Value.str (Str.ofString "all_z") (217 : Nat)) (Value.ref (42 : Nat))), (DictEntry.mk (PyData.keyHash P (Str.ofString "code")) (Value.str (Str.ofString "code") (225 : Nat)) (Value.ref (49 : Nat))), (DictEntry.mk (PyData.keyHash P (Str.ofString "codes")) (Value.str (Str.ofString "codes") (234 : Nat)) (Value.ref (56 : Nat))), (DictEntry.mk (PyData.keyHash P (Str.ofString "from_codes")) (Value.str (Str.ofString "from_codes") (244 : Nat)) (Value.ref (63 : Nat))), (DictEntry.mk (PyData.keyHash P (Str.ofString "put_slice")) (Value.str (Str.ofString "put_slice") (260 : Nat)) (Value.ref (70 : Nat))), (DictEntry.mk (PyData.keyHash P (Str.ofString "Store")) (Value.str (Str.ofString "Store") (329 : Nat)) (Value.ref (108 : Nat))), (DictEntry.mk (PyData.keyHash P (Str.ofString "net_kinds")) (Value.str (Str.ofString "net_kinds") (337 : Nat)) (Value.ref (119 : Nat))), (DictEntry.mk (PyData.keyHash P (Str.ofString "Signal")) (Value.str (Str.ofString "Signal") (421 : Nat)) (Value.ref (171 : Nat))), (DictEntry.mk (PyData.keyHash P (Str.ofString "Design")) (Value.str (Str.ofString "Design") (521 : Nat)) (Value.ref (234 : Nat))), (DictEntry.mk (PyData.keyHash P (Str.ofString "_law_take")) (Value.str (Str.ofString "_law_take") (532 : Nat)) (Value.ref (245 : Nat))), (DictEntry.mk (PyData.keyHash P (Str.ofString "law")) (Value.str (Str.ofString "law") (538 : Nat)) (Value.ref (250 : Nat)))] (23 : Nat)) #[]) ::
(PySem.W.boot_o_4 P) ::
(PySem.W.boot_o_5 P) ::
(PySem.W.boot_o_6 P) ::
(PySem.W.boot_o_7 P) ::
(PySem.W.boot_o_8 P) ::
(PySem.W.boot_o_9 P) ::
(PySem.W.boot_o_10 P) ::
(Obj.mk (Value.type "tuple") (@none Nat) (Data.seq #[] (0 : Nat)) #[]) ::
(Obj.mk PySem.Value.none (@none Nat) (Data.fields #[(Value.int 1 (0 : Nat)), (Value.int 0 (0 : Nat)), (Value.ref (20 : Nat)), (Value.int 5 (0 : Nat)), (Value.int 0 (0 : Nat)), (Value.ref (27 : Nat)), (Value.int 7 (0 : Nat)), (Value.int 0 (0 : Nat)), (Value.ref (34 : Nat)), (Value.int 10 (0 : Nat)), (Value.int 0 (0 : Nat)), (Value.ref (41 : Nat)), (Value.int 12 (0 : Nat)), (Value.int 0 (0 : Nat)), (Value.ref (48 : Nat)), (Value.int 14 (0 : Nat)), (Value.int 0 (0 : Nat)), (Value.ref (55 : Nat)), (Value.int 19 (0 : Nat)), (Value.int 0 (0 : Nat)), (Value.ref (62 : Nat)), (Value.int 26 (0 : Nat)), (Value.int 0 (0 : Nat)), (Value.ref (69 : Nat)), (Value.int 38 (0 : Nat)), (Value.int 0 (0 : Nat)), (Value.ref (76 : Nat)), (Value.int 85 (0 : Nat)), (Value.int 0 (0 : Nat)), (Value.ref (118 : Nat)), (Value.int 87 (0 : Nat)), (Value.int 0 (0 : Nat)), (Value.ref (125 : Nat)), (Value.int 127 (0 : Nat)), (Value.int 0 (0 : Nat)), (Value.ref (181 : Nat)), (Value.int 165 (0 : Nat)), (Value.int 0 (0 : Nat)), (Value.ref (244 : Nat)), (Value.int 173 (0 : Nat)), (Value.int 0 (0 : Nat)), (Value.ref (249 : Nat))]) #[]) ::
(Obj.mk (Value.type "code") (@none Nat) (Data.fields #[(Value.str (Str.ofString "<module>") (182 : Nat)), (Value.str (Str.ofString "<module>") (183 : Nat)), (Value.str (Str.ofString "/claim/cut.py") (184 : Nat)), (Value.int 1 (0 : Nat)), (Value.int 0 (0 : Nat)), (Value.int 0 (0 : Nat)), (Value.int 0 (0 : Nat)), (Value.int 0 (0 : Nat)), (Value.ref (11 : Nat)), (Value.bool Bool.false), (Value.int 181 (0 : Nat)), (Value.ref (12 : Nat)), PySem.Value.none, PySem.Value.none, PySem.Value.none, PySem.Value.none, (Value.int 185 (0 : Nat)), (Value.int 1 (0 : Nat)), (Value.str (Str.ofString "/claim/cut.py") (186 : Nat))]) #[]) ::
(Obj.mk (Value.type "frame") (@none Nat) PySem.Data.plain #[(some (Value.ref (13 : Nat))), (some (Value.ref (3 : Nat))), (some (Value.ref (3 : Nat))), none, (some (Value.str (Str.ofString "__main__") (164 : Nat))), none, (some (Value.ref (0 : Nat)))]) ::
(Obj.mk (Value.type "tuple") (@none Nat) (Data.seq #[] (0 : Nat)) #[]) ::
(Obj.mk PySem.Value.none (@none Nat) (Data.fields #[]) #[]) ::
(Obj.mk (Value.type "tuple") (@none Nat) (Data.seq #[(Value.str (Str.ofString "k") (190 : Nat))] (0 : Nat)) #[]) ::
(Obj.mk (Value.type "tuple") (@none Nat) (Data.seq #[] (0 : Nat)) #[]) ::
(Obj.mk PySem.Value.none (@none Nat) (Data.func (FuncData.mk (Str.ofString "_wall") (Str.ofString "_wall") p0 (FuncBody.stmts b0) s0 (0 : Nat) (@List.nil (PySem.Str × Nat)) PySem.Value.none PySem.Value.none PySem.Value.none PySem.Value.none (@none Nat) PySem.Value.none PySem.Value.none (0 : Nat))) #[]) ::
(Obj.mk (Value.type "code") (@none Nat) (Data.fields #[(Value.str (Str.ofString "_wall") (187 : Nat)), (Value.str (Str.ofString "_wall") (188 : Nat)), (Value.str (Str.ofString "/claim/cut.py") (189 : Nat)), (Value.int 1 (0 : Nat)), (Value.int 1 (0 : Nat)), (Value.int 0 (0 : Nat)), (Value.int 0 (0 : Nat)), (Value.int 3 (0 : Nat)), (Value.ref (15 : Nat)), (Value.bool Bool.true), (Value.int 181 (0 : Nat)), (Value.ref (16 : Nat)), PySem.Value.none, (Value.ref (17 : Nat)), (Value.ref (18 : Nat)), (Value.ref (19 : Nat)), (Value.int 191 (0 : Nat)), (Value.int 1 (0 : Nat)), (Value.str (Str.ofString "/claim/cut.py") (192 : Nat))]) #[]) ::
(Obj.mk (Value.type "function") (@none Nat) (Data.func (FuncData.mk (Str.ofString "_wall") (Str.ofString "_wall") p0 (FuncBody.stmts b0) s0 (3 : Nat) (@List.nil (PySem.Str × Nat)) PySem.Value.none PySem.Value.none PySem.Value.none (Value.str (Str.ofString "__main__") (164 : Nat)) (@none Nat) (Value.ref (20 : Nat)) PySem.Value.none (0 : Nat))) #[]) ::
(Obj.mk (Value.type "tuple") (@none Nat) (Data.seq #[] (0 : Nat)) #[]) ::
(Obj.mk PySem.Value.none (@none Nat) (Data.fields #[]) #[]) ::
(Obj.mk (Value.type "tuple") (@none Nat) (Data.seq #[(Value.str (Str.ofString "w") (199 : Nat))] (0 : Nat)) #[]) ::
(Obj.mk (Value.type "tuple") (@none Nat) (Data.seq #[] (0 : Nat)) #[]) ::
(Obj.mk PySem.Value.none (@none Nat) (Data.func (FuncData.mk (Str.ofString "mask") (Str.ofString "mask") p1 (FuncBody.stmts b1) s1 (0 : Nat) (@List.nil (PySem.Str × Nat)) PySem.Value.none PySem.Value.none PySem.Value.none PySem.Value.none (@none Nat) PySem.Value.none PySem.Value.none (0 : Nat))) #[]) ::
(Obj.mk (Value.type "code") (@none Nat) (Data.fields #[(Value.str (Str.ofString "mask") (196 : Nat)), (Value.str (Str.ofString "mask") (197 : Nat)), (Value.str (Str.ofString "/claim/cut.py") (198 : Nat)), (Value.int 5 (0 : Nat)), (Value.int 1 (0 : Nat)), (Value.int 0 (0 : Nat)), (Value.int 0 (0 : Nat)), (Value.int 3 (0 : Nat)), (Value.ref (22 : Nat)), (Value.bool Bool.true), (Value.int 181 (0 : Nat)), (Value.ref (23 : Nat)), PySem.Value.none, (Value.ref (24 : Nat)), (Value.ref (25 : Nat)), (Value.ref (26 : Nat)), (Value.int 200 (0 : Nat)), (Value.int 5 (0 : Nat)), (Value.str (Str.ofString "/claim/cut.py") (201 : Nat))]) #[]) ::
(Obj.mk (Value.type "function") (@none Nat) (Data.func (FuncData.mk (Str.ofString "mask") (Str.ofString "mask") p1 (FuncBody.stmts b1) s1 (3 : Nat) (@List.nil (PySem.Str × Nat)) PySem.Value.none PySem.Value.none PySem.Value.none (Value.str (Str.ofString "gateloom.vec") (194 : Nat)) (@none Nat) (Value.ref (27 : Nat)) PySem.Value.none (0 : Nat))) #[]) ::
(Obj.mk (Value.type "tuple") (@none Nat) (Data.seq #[] (0 : Nat)) #[]) ::
(Obj.mk PySem.Value.none (@none Nat) (Data.fields #[]) #[]) ::
(Obj.mk (Value.type "tuple") (@none Nat) (Data.seq #[(Value.str (Str.ofString "w") (206 : Nat)), (Value.str (Str.ofString "full") (207 : Nat))] (0 : Nat)) #[]) ::
(Obj.mk (Value.type "tuple") (@none Nat) (Data.seq #[] (0 : Nat)) #[]) ::
(Obj.mk PySem.Value.none (@none Nat) (Data.func (FuncData.mk (Str.ofString "all_x") (Str.ofString "all_x") p2 (FuncBody.stmts b2) s2 (0 : Nat) (@List.nil (PySem.Str × Nat)) PySem.Value.none PySem.Value.none PySem.Value.none PySem.Value.none (@none Nat) PySem.Value.none PySem.Value.none (0 : Nat))) #[]) ::
(Obj.mk (Value.type "code") (@none Nat) (Data.fields #[(Value.str (Str.ofString "all_x") (203 : Nat)), (Value.str (Str.ofString "all_x") (204 : Nat)), (Value.str (Str.ofString "/claim/cut.py") (205 : Nat)), (Value.int 7 (0 : Nat)), (Value.int 1 (0 : Nat)), (Value.int 0 (0 : Nat)), (Value.int 0 (0 : Nat)), (Value.int 3 (0 : Nat)), (Value.ref (29 : Nat)), (Value.bool Bool.true), (Value.int 181 (0 : Nat)), (Value.ref (30 : Nat)), PySem.Value.none, (Value.ref (31 : Nat)), (Value.ref (32 : Nat)), (Value.ref (33 : Nat)), (Value.int 208 (0 : Nat)), (Value.int 7 (0 : Nat)), (Value.str (Str.ofString "/claim/cut.py") (209 : Nat))]) #[]) ::
(Obj.mk (Value.type "function") (@none Nat) (Data.func (FuncData.mk (Str.ofString "all_x") (Str.ofString "all_x") p2 (FuncBody.stmts b2) s2 (3 : Nat) (@List.nil (PySem.Str × Nat)) PySem.Value.none PySem.Value.none PySem.Value.none (Value.str (Str.ofString "gateloom.vec") (194 : Nat)) (@none Nat) (Value.ref (34 : Nat)) PySem.Value.none (0 : Nat))) #[]) ::
(Obj.mk (Value.type "tuple") (@none Nat) (Data.seq #[] (0 : Nat)) #[]) ::
(Obj.mk PySem.Value.none (@none Nat) (Data.fields #[]) #[]) ::
(Obj.mk (Value.type "tuple") (@none Nat) (Data.seq #[(Value.str (Str.ofString "w") (214 : Nat))] (0 : Nat)) #[]) ::
(Obj.mk (Value.type "tuple") (@none Nat) (Data.seq #[] (0 : Nat)) #[]) ::
(Obj.mk PySem.Value.none (@none Nat) (Data.func (FuncData.mk (Str.ofString "all_z") (Str.ofString "all_z") p3 (FuncBody.stmts b3) s3 (0 : Nat) (@List.nil (PySem.Str × Nat)) PySem.Value.none PySem.Value.none PySem.Value.none PySem.Value.none (@none Nat) PySem.Value.none PySem.Value.none (0 : Nat))) #[]) ::
(Obj.mk (Value.type "code") (@none Nat) (Data.fields #[(Value.str (Str.ofString "all_z") (211 : Nat)), (Value.str (Str.ofString "all_z") (212 : Nat)), (Value.str (Str.ofString "/claim/cut.py") (213 : Nat)), (Value.int 10 (0 : Nat)), (Value.int 1 (0 : Nat)), (Value.int 0 (0 : Nat)), (Value.int 0 (0 : Nat)), (Value.int 3 (0 : Nat)), (Value.ref (36 : Nat)), (Value.bool Bool.true), (Value.int 181 (0 : Nat)), (Value.ref (37 : Nat)), PySem.Value.none, (Value.ref (38 : Nat)), (Value.ref (39 : Nat)), (Value.ref (40 : Nat)), (Value.int 215 (0 : Nat)), (Value.int 10 (0 : Nat)), (Value.str (Str.ofString "/claim/cut.py") (216 : Nat))]) #[]) ::
(Obj.mk (Value.type "function") (@none Nat) (Data.func (FuncData.mk (Str.ofString "all_z") (Str.ofString "all_z") p3 (FuncBody.stmts b3) s3 (3 : Nat) (@List.nil (PySem.Str × Nat)) PySem.Value.none PySem.Value.none PySem.Value.none (Value.str (Str.ofString "gateloom.vec") (194 : Nat)) (@none Nat) (Value.ref (41 : Nat)) PySem.Value.none (0 : Nat))) #[]) ::
(Obj.mk (Value.type "tuple") (@none Nat) (Data.seq #[] (0 : Nat)) #[]) ::
(Obj.mk PySem.Value.none (@none Nat) (Data.fields #[]) #[]) ::
(Obj.mk (Value.type "tuple") (@none Nat) (Data.seq #[(Value.str (Str.ofString "v") (221 : Nat)), (Value.str (Str.ofString "i") (222 : Nat))] (0 : Nat)) #[]) ::
(Obj.mk (Value.type "tuple") (@none Nat) (Data.seq #[] (0 : Nat)) #[]) ::
(Obj.mk PySem.Value.none (@none Nat) (Data.func (FuncData.mk (Str.ofString "code") (Str.ofString "code") p4 (FuncBody.stmts b4) s4 (0 : Nat) (@List.nil (PySem.Str × Nat)) PySem.Value.none PySem.Value.none PySem.Value.none PySem.Value.none (@none Nat) PySem.Value.none PySem.Value.none (0 : Nat))) #[]) ::
(Obj.mk (Value.type "code") (@none Nat) (Data.fields #[(Value.str (Str.ofString "code") (218 : Nat)), (Value.str (Str.ofString "code") (219 : Nat)), (Value.str (Str.ofString "/claim/cut.py") (220 : Nat)), (Value.int 12 (0 : Nat)), (Value.int 2 (0 : Nat)), (Value.int 0 (0 : Nat)), (Value.int 0 (0 : Nat)), (Value.int 3 (0 : Nat)), (Value.ref (43 : Nat)), (Value.bool Bool.true), (Value.int 181 (0 : Nat)), (Value.ref (44 : Nat)), PySem.Value.none, (Value.ref (45 : Nat)), (Value.ref (46 : Nat)), (Value.ref (47 : Nat)), (Value.int 223 (0 : Nat)), (Value.int 12 (0 : Nat)), (Value.str (Str.ofString "/claim/cut.py") (224 : Nat))]) #[]) ::
(Obj.mk (Value.type "function") (@none Nat) (Data.func (FuncData.mk (Str.ofString "code") (Str.ofString "code") p4 (FuncBody.stmts b4) s4 (3 : Nat) (@List.nil (PySem.Str × Nat)) PySem.Value.none PySem.Value.none PySem.Value.none (Value.str (Str.ofString "gateloom.vec") (194 : Nat)) (@none Nat) (Value.ref (48 : Nat)) PySem.Value.none (0 : Nat))) #[]) ::
(Obj.mk (Value.type "tuple") (@none Nat) (Data.seq #[] (0 : Nat)) #[]) ::
(Obj.mk PySem.Value.none (@none Nat) (Data.fields #[]) #[]) ::
(Obj.mk (Value.type "tuple") (@none Nat) (Data.seq #[(Value.str (Str.ofString "v") (229 : Nat)), (Value.str (Str.ofString "row") (230 : Nat)), (Value.str (Str.ofString "i") (231 : Nat))] (0 : Nat)) #[]) ::
(Obj.mk (Value.type "tuple") (@none Nat) (Data.seq #[] (0 : Nat)) #[]) ::
(Obj.mk PySem.Value.none (@none Nat) (Data.func (FuncData.mk (Str.ofString "codes") (Str.ofString "codes") p5 (FuncBody.stmts b5) s5 (0 : Nat) (@List.nil (PySem.Str × Nat)) PySem.Value.none PySem.Value.none PySem.Value.none PySem.Value.none (@none Nat) PySem.Value.none PySem.Value.none (0 : Nat))) #[]) ::
(Obj.mk (Value.type "code") (@none Nat) (Data.fields #[(Value.str (Str.ofString "codes") (226 : Nat)), (Value.str (Str.ofString "codes") (227 : Nat)), (Value.str (Str.ofString "/claim/cut.py") (228 : Nat)), (Value.int 14 (0 : Nat)), (Value.int 1 (0 : Nat)), (Value.int 0 (0 : Nat)), (Value.int 0 (0 : Nat)), (Value.int 3 (0 : Nat)), (Value.ref (50 : Nat)), (Value.bool Bool.true), (Value.int 181 (0 : Nat)), (Value.ref (51 : Nat)), PySem.Value.none, (Value.ref (52 : Nat)), (Value.ref (53 : Nat)), (Value.ref (54 : Nat)), (Value.int 232 (0 : Nat)), (Value.int 14 (0 : Nat)), (Value.str (Str.ofString "/claim/cut.py") (233 : Nat))]) #[]) ::
(Obj.mk (Value.type "function") (@none Nat) (Data.func (FuncData.mk (Str.ofString "codes") (Str.ofString "codes") p5 (FuncBody.stmts b5) s5 (3 : Nat) (@List.nil (PySem.Str × Nat)) PySem.Value.none PySem.Value.none PySem.Value.none (Value.str (Str.ofString "gateloom.vec") (194 : Nat)) (@none Nat) (Value.ref (55 : Nat)) PySem.Value.none (0 : Nat))) #[]) ::
(Obj.mk (Value.type "tuple") (@none Nat) (Data.seq #[] (0 : Nat)) #[]) ::
(Obj.mk PySem.Value.none (@none Nat) (Data.fields #[]) #[]) ::
(Obj.mk (Value.type "tuple") (@none Nat) (Data.seq #[(Value.str (Str.ofString "row") (238 : Nat)), (Value.str (Str.ofString "a") (239 : Nat)), (Value.str (Str.ofString "b") (240 : Nat)), (Value.str (Str.ofString "i") (241 : Nat))] (0 : Nat)) #[]) ::
(Obj.mk (Value.type "tuple") (@none Nat) (Data.seq #[] (0 : Nat)) #[]) ::
(Obj.mk PySem.Value.none (@none Nat) (Data.func (FuncData.mk (Str.ofString "from_codes") (Str.ofString "from_codes") p6 (FuncBody.stmts b6) s6 (0 : Nat) (@List.nil (PySem.Str × Nat)) PySem.Value.none PySem.Value.none PySem.Value.none PySem.Value.none (@none Nat) PySem.Value.none PySem.Value.none (0 : Nat))) #[]) ::
(Obj.mk (Value.type "code") (@none Nat) (Data.fields #[(Value.str (Str.ofString "from_codes") (235 : Nat)), (Value.str (Str.ofString "from_codes") (236 : Nat)), (Value.str (Str.ofString "/claim/cut.py") (237 : Nat)), (Value.int 19 (0 : Nat)), (Value.int 1 (0 : Nat)), (Value.int 0 (0 : Nat)), (Value.int 0 (0 : Nat)), (Value.int 3 (0 : Nat)), (Value.ref (57 : Nat)), (Value.bool Bool.true), (Value.int 181 (0 : Nat)), (Value.ref (58 : Nat)), PySem.Value.none, (Value.ref (59 : Nat)), (Value.ref (60 : Nat)), (Value.ref (61 : Nat)), (Value.int 242 (0 : Nat)), (Value.int 19 (0 : Nat)), (Value.str (Str.ofString "/claim/cut.py") (243 : Nat))]) #[]) ::
(Obj.mk (Value.type "function") (@none Nat) (Data.func (FuncData.mk (Str.ofString "from_codes") (Str.ofString "from_codes") p6 (FuncBody.stmts b6) s6 (3 : Nat) (@List.nil (PySem.Str × Nat)) PySem.Value.none PySem.Value.none PySem.Value.none (Value.str (Str.ofString "gateloom.vec") (194 : Nat)) (@none Nat) (Value.ref (62 : Nat)) PySem.Value.none (0 : Nat))) #[]) ::
(Obj.mk (Value.type "tuple") (@none Nat) (Data.seq #[] (0 : Nat)) #[]) ::
(Obj.mk PySem.Value.none (@none Nat) (Data.fields #[]) #[]) ::
(Obj.mk (Value.type "tuple") (@none Nat) (Data.seq #[(Value.str (Str.ofString "v") (248 : Nat)), (Value.str (Str.ofString "lo") (249 : Nat)), (Value.str (Str.ofString "part") (250 : Nat)), (Value.str (Str.ofString "first") (251 : Nat)), (Value.str (Str.ofString "last") (252 : Nat)), (Value.str (Str.ofString "inner") (253 : Nat)), (Value.str (Str.ofString "skip") (254 : Nat)), (Value.str (Str.ofString "keep") (255 : Nat)), (Value.str (Str.ofString "a") (256 : Nat)), (Value.str (Str.ofString "b") (257 : Nat))] (0 : Nat)) #[]) ::
(Obj.mk (Value.type "tuple") (@none Nat) (Data.seq #[] (0 : Nat)) #[]) ::
(Obj.mk PySem.Value.none (@none Nat) (Data.func (FuncData.mk (Str.ofString "put_slice") (Str.ofString "put_slice") p7 (FuncBody.stmts b7) s7 (0 : Nat) (@List.nil (PySem.Str × Nat)) PySem.Value.none PySem.Value.none PySem.Value.none PySem.Value.none (@none Nat) PySem.Value.none PySem.Value.none (0 : Nat))) #[]) ::
(Obj.mk (Value.type "code") (@none Nat) (Data.fields #[(Value.str (Str.ofString "put_slice") (245 : Nat)), (Value.str (Str.ofString "put_slice") (246 : Nat)), (Value.str (Str.ofString "/claim/cut.py") (247 : Nat)), (Value.int 26 (0 : Nat)), (Value.int 3 (0 : Nat)), (Value.int 0 (0 : Nat)), (Value.int 0 (0 : Nat)), (Value.int 3 (0 : Nat)), (Value.ref (64 : Nat)), (Value.bool Bool.true), (Value.int 181 (0 : Nat)), (Value.ref (65 : Nat)), PySem.Value.none, (Value.ref (66 : Nat)), (Value.ref (67 : Nat)), (Value.ref (68 : Nat)), (Value.int 258 (0 : Nat)), (Value.int 26 (0 : Nat)), (Value.str (Str.ofString "/claim/cut.py") (259 : Nat))]) #[]) ::
(Obj.mk (Value.type "function") (@none Nat) (Data.func (FuncData.mk (Str.ofString "put_slice") (Str.ofString "put_slice") p7 (FuncBody.stmts b7) s7 (3 : Nat) (@List.nil (PySem.Str × Nat)) PySem.Value.none PySem.Value.none PySem.Value.none (Value.str (Str.ofString "gateloom.vec") (194 : Nat)) (@none Nat) (Value.ref (69 : Nat)) PySem.Value.none (0 : Nat))) #[]) ::
(Obj.mk (Value.type "tuple") (@none Nat) (Data.seq #[] (0 : Nat)) #[]) ::
(Obj.mk (Value.type "builtin_function_or_method") (@none Nat) (Data.fields #[(Value.builtin "type.__prepare__"), (Value.type "type")]) #[]) ::
(Obj.mk (Value.type "dict") (@none Nat) (Data.dict #[(DictEntry.mk (PyData.keyHash P (Str.ofString "__module__")) (Value.str (Str.ofString "__module__") (270 : Nat)) (Value.str (Str.ofString "gateloom.store") (261 : Nat))), (DictEntry.mk (PyData.keyHash P (Str.ofString "__qualname__")) (Value.str (Str.ofString "__qualname__") (272 : Nat)) (Value.str (Str.ofString "Store") (271 : Nat))), (DictEntry.mk (PyData.keyHash P (Str.ofString "__firstlineno__")) (Value.str (Str.ofString "__firstlineno__") (274 : Nat)) (Value.int 38 (273 : Nat))), (DictEntry.mk (PyData.keyHash P (Str.ofString "__init__")) (Value.str (Str.ofString "__init__") (282 : Nat)) (Value.ref (84 : Nat))), (DictEntry.mk (PyData.keyHash P (Str.ofString "get")) (Value.str (Str.ofString "get") (292 : Nat)) (Value.ref (91 : Nat))), (DictEntry.mk (PyData.keyHash P (Str.ofString "word")) (Value.str (Str.ofString "word") (304 : Nat)) (Value.ref (98 : Nat))), (DictEntry.mk (PyData.keyHash P (Str.ofString "set_bits")) (Value.str (Str.ofString "set_bits") (317 : Nat)) (Value.ref (105 : Nat))), (DictEntry.mk (PyData.keyHash P (Str.ofString "__static_attributes__")) (Value.str (Str.ofString "__static_attributes__") (322 : Nat)) (Value.ref (106 : Nat)))] (8 : Nat)) #[]) ::
(Obj.mk (Value.type "tuple") (@none Nat) (Data.seq #[] (0 : Nat)) #[]) ::
(Obj.mk PySem.Value.none (@none Nat) (Data.fields #[(Value.int 40 (0 : Nat)), (Value.int 4 (0 : Nat)), (Value.ref (83 : Nat)), (Value.int 46 (0 : Nat)), (Value.int 4 (0 : Nat)), (Value.ref (90 : Nat)), (Value.int 55 (0 : Nat)), (Value.int 4 (0 : Nat)), (Value.ref (97 : Nat)), (Value.int 66 (0 : Nat)), (Value.int 4 (0 : Nat)), (Value.ref (104 : Nat))]) #[]) ::
(Obj.mk (Value.type "code") (@none Nat) (Data.fields #[(Value.str (Str.ofString "Store") (265 : Nat)), (Value.str (Str.ofString "Store") (266 : Nat)), (Value.str (Str.ofString "/claim/cut.py") (267 : Nat)), (Value.int 38 (0 : Nat)), (Value.int 0 (0 : Nat)), (Value.int 0 (0 : Nat)), (Value.int 0 (0 : Nat)), (Value.int 0 (0 : Nat)), (Value.ref (74 : Nat)), (Value.bool Bool.false), (Value.int 181 (0 : Nat)), (Value.ref (75 : Nat)), PySem.Value.none, PySem.Value.none, PySem.Value.none, PySem.Value.none, (Value.int 268 (0 : Nat)), (Value.int 38 (0 : Nat)), (Value.str (Str.ofString "/claim/cut.py") (269 : Nat))]) #[]) ::
(Obj.mk (Value.type "frame") (@none Nat) PySem.Data.plain #[(some (Value.ref (76 : Nat))), (some (Value.ref (3 : Nat))), (some (Value.ref (73 : Nat))), none, (some (Value.str (Str.ofString "gateloom.store") (261 : Nat))), none, (some (Value.ref (0 : Nat)))]) ::
(Obj.mk (Value.type "tuple") (@none Nat) (Data.seq #[] (0 : Nat)) #[]) ::
(Obj.mk PySem.Value.none (@none Nat) (Data.fields #[]) #[]) ::
(Obj.mk (Value.type "tuple") (@none Nat) (Data.seq #[(Value.str (Str.ofString "self") (278 : Nat)), (Value.str (Str.ofString "signals") (279 : Nat))] (0 : Nat)) #[]) ::
(Obj.mk (Value.type "tuple") (@none Nat) (Data.seq #[] (0 : Nat)) #[]) ::
(Obj.mk PySem.Value.none (@none Nat) (Data.func (FuncData.mk (Str.ofString "__init__") (Str.ofString "Store.__init__") p8 (FuncBody.stmts b8) s8 (0 : Nat) (@List.nil (PySem.Str × Nat)) PySem.Value.none PySem.Value.none PySem.Value.none PySem.Value.none (@none Nat) PySem.Value.none PySem.Value.none (0 : Nat))) #[]) ::
(Obj.mk (Value.type "code") (@none Nat) (Data.fields #[(Value.str (Str.ofString "__init__") (275 : Nat)), (Value.str (Str.ofString "Store.__init__") (276 : Nat)), (Value.str (Str.ofString "/claim/cut.py") (277 : Nat)), (Value.int 40 (0 : Nat)), (Value.int 2 (0 : Nat)), (Value.int 0 (0 : Nat)), (Value.int 0 (0 : Nat)), (Value.int 3 (0 : Nat)), (Value.ref (78 : Nat)), (Value.bool Bool.true), (Value.int 181 (0 : Nat)), (Value.ref (79 : Nat)), PySem.Value.none, (Value.ref (80 : Nat)), (Value.ref (81 : Nat)), (Value.ref (82 : Nat)), (Value.int 280 (0 : Nat)), (Value.int 40 (0 : Nat)), (Value.str (Str.ofString "/claim/cut.py") (281 : Nat))]) #[]) ::
(Obj.mk (Value.type "function") (@none Nat) (Data.func (FuncData.mk (Str.ofString "__init__") (Str.ofString "Store.__init__") p8 (FuncBody.stmts b8) s8 (3 : Nat) (@List.nil (PySem.Str × Nat)) PySem.Value.none PySem.Value.none PySem.Value.none (Value.str (Str.ofString "gateloom.store") (261 : Nat)) (@none Nat) (Value.ref (83 : Nat)) PySem.Value.none (0 : Nat))) #[]) ::
(Obj.mk (Value.type "tuple") (@none Nat) (Data.seq #[] (0 : Nat)) #[]) ::
(Obj.mk PySem.Value.none (@none Nat) (Data.fields #[]) #[]) ::
(Obj.mk (Value.type "tuple") (@none Nat) (Data.seq #[(Value.str (Str.ofString "self") (286 : Nat)), (Value.str (Str.ofString "key") (287 : Nat)), (Value.str (Str.ofString "value") (288 : Nat)), (Value.str (Str.ofString "signal") (289 : Nat))] (0 : Nat)) #[]) ::
(Obj.mk (Value.type "tuple") (@none Nat) (Data.seq #[] (0 : Nat)) #[]) ::
(Obj.mk PySem.Value.none (@none Nat) (Data.func (FuncData.mk (Str.ofString "get") (Str.ofString "Store.get") p9 (FuncBody.stmts b9) s9 (0 : Nat) (@List.nil (PySem.Str × Nat)) PySem.Value.none PySem.Value.none PySem.Value.none PySem.Value.none (@none Nat) PySem.Value.none PySem.Value.none (0 : Nat))) #[]) ::
(Obj.mk (Value.type "code") (@none Nat) (Data.fields #[(Value.str (Str.ofString "get") (283 : Nat)), (Value.str (Str.ofString "Store.get") (284 : Nat)), (Value.str (Str.ofString "/claim/cut.py") (285 : Nat)), (Value.int 46 (0 : Nat)), (Value.int 2 (0 : Nat)), (Value.int 0 (0 : Nat)), (Value.int 0 (0 : Nat)), (Value.int 3 (0 : Nat)), (Value.ref (85 : Nat)), (Value.bool Bool.true), (Value.int 181 (0 : Nat)), (Value.ref (86 : Nat)), PySem.Value.none, (Value.ref (87 : Nat)), (Value.ref (88 : Nat)), (Value.ref (89 : Nat)), (Value.int 290 (0 : Nat)), (Value.int 46 (0 : Nat)), (Value.str (Str.ofString "/claim/cut.py") (291 : Nat))]) #[]) ::
(Obj.mk (Value.type "function") (@none Nat) (Data.func (FuncData.mk (Str.ofString "get") (Str.ofString "Store.get") p9 (FuncBody.stmts b9) s9 (3 : Nat) (@List.nil (PySem.Str × Nat)) PySem.Value.none PySem.Value.none PySem.Value.none (Value.str (Str.ofString "gateloom.store") (261 : Nat)) (@none Nat) (Value.ref (90 : Nat)) PySem.Value.none (0 : Nat))) #[]) ::
(Obj.mk (Value.type "tuple") (@none Nat) (Data.seq #[] (0 : Nat)) #[]) ::
(Obj.mk PySem.Value.none (@none Nat) (Data.fields #[]) #[]) ::
(Obj.mk (Value.type "tuple") (@none Nat) (Data.seq #[(Value.str (Str.ofString "self") (296 : Nat)), (Value.str (Str.ofString "key") (297 : Nat)), (Value.str (Str.ofString "place") (298 : Nat)), (Value.str (Str.ofString "words") (299 : Nat)), (Value.str (Str.ofString "value") (300 : Nat)), (Value.str (Str.ofString "signal") (301 : Nat))] (0 : Nat)) #[]) ::
(Obj.mk (Value.type "tuple") (@none Nat) (Data.seq #[] (0 : Nat)) #[]) ::
(Obj.mk PySem.Value.none (@none Nat) (Data.func (FuncData.mk (Str.ofString "word") (Str.ofString "Store.word") p10 (FuncBody.stmts b10) s10 (0 : Nat) (@List.nil (PySem.Str × Nat)) PySem.Value.none PySem.Value.none PySem.Value.none PySem.Value.none (@none Nat) PySem.Value.none PySem.Value.none (0 : Nat))) #[]) ::
(Obj.mk (Value.type "code") (@none Nat) (Data.fields #[(Value.str (Str.ofString "word") (293 : Nat)), (Value.str (Str.ofString "Store.word") (294 : Nat)), (Value.str (Str.ofString "/claim/cut.py") (295 : Nat)), (Value.int 55 (0 : Nat)), (Value.int 3 (0 : Nat)), (Value.int 0 (0 : Nat)), (Value.int 0 (0 : Nat)), (Value.int 3 (0 : Nat)), (Value.ref (92 : Nat)), (Value.bool Bool.true), (Value.int 181 (0 : Nat)), (Value.ref (93 : Nat)), PySem.Value.none, (Value.ref (94 : Nat)), (Value.ref (95 : Nat)), (Value.ref (96 : Nat)), (Value.int 302 (0 : Nat)), (Value.int 55 (0 : Nat)), (Value.str (Str.ofString "/claim/cut.py") (303 : Nat))]) #[]) ::
(Obj.mk (Value.type "function") (@none Nat) (Data.func (FuncData.mk (Str.ofString "word") (Str.ofString "Store.word") p10 (FuncBody.stmts b10) s10 (3 : Nat) (@List.nil (PySem.Str × Nat)) PySem.Value.none PySem.Value.none PySem.Value.none (Value.str (Str.ofString "gateloom.store") (261 : Nat)) (@none Nat) (Value.ref (97 : Nat)) PySem.Value.none (0 : Nat))) #[]) ::
(Obj.mk (Value.type "tuple") (@none Nat) (Data.seq #[] (0 : Nat)) #[]) ::
(Obj.mk PySem.Value.none (@none Nat) (Data.fields #[]) #[]) ::
(Obj.mk (Value.type "tuple") (@none Nat) (Data.seq #[(Value.str (Str.ofString "self") (308 : Nat)), (Value.str (Str.ofString "key") (309 : Nat)), (Value.str (Str.ofString "place") (310 : Nat)), (Value.str (Str.ofString "lo") (311 : Nat)), (Value.str (Str.ofString "value") (312 : Nat)), (Value.str (Str.ofString "old") (313 : Nat)), (Value.str (Str.ofString "new") (314 : Nat))] (0 : Nat)) #[]) ::
(Obj.mk (Value.type "tuple") (@none Nat) (Data.seq #[] (0 : Nat)) #[]) ::
(Obj.mk PySem.Value.none (@none Nat) (Data.func (FuncData.mk (Str.ofString "set_bits") (Str.ofString "Store.set_bits") p11 (FuncBody.stmts b11) s11 (0 : Nat) (@List.nil (PySem.Str × Nat)) PySem.Value.none PySem.Value.none PySem.Value.none PySem.Value.none (@none Nat) PySem.Value.none PySem.Value.none (0 : Nat))) #[]) ::
(Obj.mk (Value.type "code") (@none Nat) (Data.fields #[(Value.str (Str.ofString "set_bits") (305 : Nat)), (Value.str (Str.ofString "Store.set_bits") (306 : Nat)), (Value.str (Str.ofString "/claim/cut.py") (307 : Nat)), (Value.int 66 (0 : Nat)), (Value.int 5 (0 : Nat)), (Value.int 0 (0 : Nat)), (Value.int 0 (0 : Nat)), (Value.int 3 (0 : Nat)), (Value.ref (99 : Nat)), (Value.bool Bool.true), (Value.int 181 (0 : Nat)), (Value.ref (100 : Nat)), PySem.Value.none, (Value.ref (101 : Nat)), (Value.ref (102 : Nat)), (Value.ref (103 : Nat)), (Value.int 315 (0 : Nat)), (Value.int 66 (0 : Nat)), (Value.str (Str.ofString "/claim/cut.py") (316 : Nat))]) #[]) ::
(Obj.mk (Value.type "function") (@none Nat) (Data.func (FuncData.mk (Str.ofString "set_bits") (Str.ofString "Store.set_bits") p11 (FuncBody.stmts b11) s11 (3 : Nat) (@List.nil (PySem.Str × Nat)) PySem.Value.none PySem.Value.none PySem.Value.none (Value.str (Str.ofString "gateloom.store") (261 : Nat)) (@none Nat) (Value.ref (104 : Nat)) PySem.Value.none (0 : Nat))) #[]) ::
(Obj.mk (Value.type "tuple") (@none Nat) (Data.seq #[(Value.str (Str.ofString "memories") (318 : Nat)), (Value.str (Str.ofString "random_seed") (319 : Nat)), (Value.str (Str.ofString "signals") (320 : Nat)), (Value.str (Str.ofString "values") (321 : Nat))] (0 : Nat)) #[]) ::
(Obj.mk (Value.type "dict") (@none Nat) (Data.dict #[(DictEntry.mk (PyData.keyHash P (Str.ofString "__module__")) (Value.str (Str.ofString "__module__") (270 : Nat)) (Value.str (Str.ofString "gateloom.store") (261 : Nat))), (DictEntry.mk (PyData.keyHash P (Str.ofString "__firstlineno__")) (Value.str (Str.ofString "__firstlineno__") (274 : Nat)) (Value.int 38 (273 : Nat))), (DictEntry.mk (PyData.keyHash P (Str.ofString "__init__")) (Value.str (Str.ofString "__init__") (282 : Nat)) (Value.ref (84 : Nat))), (DictEntry.mk (PyData.keyHash P (Str.ofString "get")) (Value.str (Str.ofString "get") (292 : Nat)) (Value.ref (91 : Nat))), (DictEntry.mk (PyData.keyHash P (Str.ofString "word")) (Value.str (Str.ofString "word") (304 : Nat)) (Value.ref (98 : Nat))), (DictEntry.mk (PyData.keyHash P (Str.ofString "set_bits")) (Value.str (Str.ofString "set_bits") (317 : Nat)) (Value.ref (105 : Nat))), (DictEntry.mk (PyData.keyHash P (Str.ofString "__static_attributes__")) (Value.str (Str.ofString "__static_attributes__") (322 : Nat)) (Value.ref (106 : Nat))), (DictEntry.mk (PyData.keyHash P (Str.ofString "__dict__")) (Value.str (Str.ofString "__dict__") (324 : Nat)) (Value.ref (109 : Nat))), (DictEntry.mk (PyData.keyHash P (Str.ofString "__weakref__")) (Value.str (Str.ofString "__weakref__") (326 : Nat)) (Value.ref (110 : Nat))), (DictEntry.mk (PyData.keyHash P (Str.ofString "__doc__")) (Value.str (Str.ofString "__doc__") (327 : Nat)) PySem.Value.none)] (4 : Nat)) #[]) ::
(Obj.mk (Value.type "type") (@none Nat) (Data.cls (ClassData.mk (Str.ofString "Store") [(Value.type "object")] [(Value.ref (108 : Nat)), (Value.type "object")] (107 : Nat) (Str.ofString "Store") Bool.true [] [] Bool.false none Bool.false)) #[none, none, (some (Value.str (Str.ofString "Store") (263 : Nat))), (some (Value.str (Str.ofString "Store") (271 : Nat))), (some (Value.builtin "object.__new__")), (some (Value.bool Bool.true))]) ::
(Obj.mk (Value.type "getset_descriptor") (@none Nat) (Data.fields #[(Value.str (Str.ofString "__dict__") (323 : Nat)), (Value.ref (108 : Nat)), (Value.builtin "function.__dict__"), (Value.builtin "function.__dict__#set")]) #[]) ::
(Obj.mk (Value.type "getset_descriptor") (@none Nat) (Data.fields #[(Value.str (Str.ofString "__weakref__") (325 : Nat)), (Value.ref (108 : Nat)), (Value.builtin "ExceptionGroup.__weakref__"), PySem.Value.none]) #[]) ::
(Obj.mk (Value.type "super") (@none Nat) (Data.fields #[(Value.ref (108 : Nat)), (Value.ref (108 : Nat)), (Value.ref (108 : Nat))]) #[]) ::
(Obj.mk (Value.type "builtin_function_or_method") (@none Nat) (Data.fields #[(Value.builtin "object.__init_subclass__"), (Value.ref (108 : Nat))]) #[]) ::
(Obj.mk (Value.type "tuple") (@none Nat) (Data.seq #[] (0 : Nat)) #[]) ::
(Obj.mk PySem.Value.none (@none Nat) (Data.fields #[]) #[]) ::
(Obj.mk (Value.type "tuple") (@none Nat) (Data.seq #[] (0 : Nat)) #[]) ::
(Obj.mk (Value.type "tuple") (@none Nat) (Data.seq #[] (0 : Nat)) #[]) ::
(Obj.mk PySem.Value.none (@none Nat) (Data.func (FuncData.mk (Str.ofString "net_kinds") (Str.ofString "net_kinds") p12 (FuncBody.stmts b12) s12 (0 : Nat) (@List.nil (PySem.Str × Nat)) PySem.Value.none PySem.Value.none PySem.Value.none PySem.Value.none (@none Nat) PySem.Value.none PySem.Value.none (0 : Nat))) #[]) ::
(Obj.mk (Value.type "code") (@none Nat) (Data.fields #[(Value.str (Str.ofString "net_kinds") (332 : Nat)), (Value.str (Str.ofString "net_kinds") (333 : Nat)), (Value.str (Str.ofString "/claim/cut.py") (334 : Nat)), (Value.int 85 (0 : Nat)), (Value.int 0 (0 : Nat)), (Value.int 0 (0 : Nat)), (Value.int 0 (0 : Nat)), (Value.int 3 (0 : Nat)), (Value.ref (113 : Nat)), (Value.bool Bool.true), (Value.int 181 (0 : Nat)), (Value.ref (114 : Nat)), PySem.Value.none, (Value.ref (115 : Nat)), (Value.ref (116 : Nat)), (Value.ref (117 : Nat)), (Value.int 335 (0 : Nat)), (Value.int 85 (0 : Nat)), (Value.str (Str.ofString "/claim/cut.py") (336 : Nat))]) #[]) ::
(Obj.mk (Value.type "function") (@none Nat) (Data.func (FuncData.mk (Str.ofString "net_kinds") (Str.ofString "net_kinds") p12 (FuncBody.stmts b12) s12 (3 : Nat) (@List.nil (PySem.Str × Nat)) PySem.Value.none PySem.Value.none PySem.Value.none (Value.str (Str.ofString "gateloom.design") (330 : Nat)) (@none Nat) (Value.ref (118 : Nat)) PySem.Value.none (0 : Nat))) #[]) ::
(Obj.mk (Value.type "tuple") (@none Nat) (Data.seq #[] (0 : Nat)) #[]) ::
(Obj.mk (Value.type "builtin_function_or_method") (@none Nat) (Data.fields #[(Value.builtin "type.__prepare__"), (Value.type "type")]) #[]) ::
(Obj.mk (Value.type "dict") (@none Nat) (Data.dict #[(DictEntry.mk (PyData.keyHash P (Str.ofString "__module__")) (Value.str (Str.ofString "__module__") (345 : Nat)) (Value.str (Str.ofString "gateloom.design") (330 : Nat))), (DictEntry.mk (PyData.keyHash P (Str.ofString "__qualname__")) (Value.str (Str.ofString "__qualname__") (347 : Nat)) (Value.str (Str.ofString "Signal") (346 : Nat))), (DictEntry.mk (PyData.keyHash P (Str.ofString "__firstlineno__")) (Value.str (Str.ofString "__firstlineno__") (349 : Nat)) (Value.int 87 (348 : Nat))), (DictEntry.mk (PyData.keyHash P (Str.ofString "__init__")) (Value.str (Str.ofString "__init__") (363 : Nat)) (Value.ref (133 : Nat))), (DictEntry.mk (PyData.keyHash P (Str.ofString "is_net")) (Value.str (Str.ofString "is_net") (370 : Nat)) (Value.ref (140 : Nat))), (DictEntry.mk (PyData.keyHash P (Str.ofString "is_memory")) (Value.str (Str.ofString "is_memory") (377 : Nat)) (Value.ref (147 : Nat))), (DictEntry.mk (PyData.keyHash P (Str.ofString "words")) (Value.str (Str.ofString "words") (384 : Nat)) (Value.ref (154 : Nat))), (DictEntry.mk (PyData.keyHash P (Str.ofString "offset")) (Value.str (Str.ofString "offset") (392 : Nat)) (Value.ref (161 : Nat))), (DictEntry.mk (PyData.keyHash P (Str.ofString "place")) (Value.str (Str.ofString "place") (401 : Nat)) (Value.ref (168 : Nat))), (DictEntry.mk (PyData.keyHash P (Str.ofString "__static_attributes__")) (Value.str (Str.ofString "__static_attributes__") (414 : Nat)) (Value.ref (169 : Nat)))] (10 : Nat)) #[]) ::
(Obj.mk (Value.type "tuple") (@none Nat) (Data.seq #[] (0 : Nat)) #[]) ::
(Obj.mk PySem.Value.none (@none Nat) (Data.fields #[(Value.int 89 (0 : Nat)), (Value.int 4 (0 : Nat)), (Value.ref (132 : Nat)), (Value.int 103 (0 : Nat)), (Value.int 4 (0 : Nat)), (Value.ref (139 : Nat)), (Value.int 106 (0 : Nat)), (Value.int 4 (0 : Nat)), (Value.ref (146 : Nat)), (Value.int 109 (0 : Nat)), (Value.int 4 (0 : Nat)), (Value.ref (153 : Nat)), (Value.int 114 (0 : Nat)), (Value.int 4 (0 : Nat)), (Value.ref (160 : Nat)), (Value.int 117 (0 : Nat)), (Value.int 4 (0 : Nat)), (Value.ref (167 : Nat))]) #[]) ::
(Obj.mk (Value.type "code") (@none Nat) (Data.fields #[(Value.str (Str.ofString "Signal") (340 : Nat)), (Value.str (Str.ofString "Signal") (341 : Nat)), (Value.str (Str.ofString "/claim/cut.py") (342 : Nat)), (Value.int 87 (0 : Nat)), (Value.int 0 (0 : Nat)), (Value.int 0 (0 : Nat)), (Value.int 0 (0 : Nat)), (Value.int 0 (0 : Nat)), (Value.ref (123 : Nat)), (Value.bool Bool.false), (Value.int 181 (0 : Nat)), (Value.ref (124 : Nat)), PySem.Value.none, PySem.Value.none, PySem.Value.none, PySem.Value.none, (Value.int 343 (0 : Nat)), (Value.int 87 (0 : Nat)), (Value.str (Str.ofString "/claim/cut.py") (344 : Nat))]) #[]) ::
(Obj.mk (Value.type "frame") (@none Nat) PySem.Data.plain #[(some (Value.ref (125 : Nat))), (some (Value.ref (3 : Nat))), (some (Value.ref (122 : Nat))), none, (some (Value.str (Str.ofString "gateloom.design") (330 : Nat))), none, (some (Value.ref (0 : Nat)))]) ::
(Obj.mk (Value.type "tuple") (@none Nat) (Data.seq #[] (0 : Nat)) #[]) ::
(Obj.mk PySem.Value.none (@none Nat) (Data.fields #[]) #[]) ::
(Obj.mk (Value.type "tuple") (@none Nat) (Data.seq #[(Value.str (Str.ofString "self") (353 : Nat)), (Value.str (Str.ofString "key") (354 : Nat)), (Value.str (Str.ofString "path") (355 : Nat)), (Value.str (Str.ofString "kind") (356 : Nat)), (Value.str (Str.ofString "width") (357 : Nat)), (Value.str (Str.ofString "signed") (358 : Nat)), (Value.str (Str.ofString "msb") (359 : Nat)), (Value.str (Str.ofString "lsb") (360 : Nat))] (0 : Nat)) #[]) ::
(Obj.mk (Value.type "tuple") (@none Nat) (Data.seq #[] (0 : Nat)) #[]) ::
(Obj.mk PySem.Value.none (@none Nat) (Data.func (FuncData.mk (Str.ofString "__init__") (Str.ofString "Signal.__init__") p13 (FuncBody.stmts b13) s13 (0 : Nat) (@List.nil (PySem.Str × Nat)) PySem.Value.none PySem.Value.none PySem.Value.none PySem.Value.none (@none Nat) PySem.Value.none PySem.Value.none (0 : Nat))) #[]) ::
(Obj.mk (Value.type "code") (@none Nat) (Data.fields #[(Value.str (Str.ofString "__init__") (350 : Nat)), (Value.str (Str.ofString "Signal.__init__") (351 : Nat)), (Value.str (Str.ofString "/claim/cut.py") (352 : Nat)), (Value.int 89 (0 : Nat)), (Value.int 8 (0 : Nat)), (Value.int 0 (0 : Nat)), (Value.int 0 (0 : Nat)), (Value.int 3 (0 : Nat)), (Value.ref (127 : Nat)), (Value.bool Bool.true), (Value.int 181 (0 : Nat)), (Value.ref (128 : Nat)), PySem.Value.none, (Value.ref (129 : Nat)), (Value.ref (130 : Nat)), (Value.ref (131 : Nat)), (Value.int 361 (0 : Nat)), (Value.int 89 (0 : Nat)), (Value.str (Str.ofString "/claim/cut.py") (362 : Nat))]) #[]) ::
(Obj.mk (Value.type "function") (@none Nat) (Data.func (FuncData.mk (Str.ofString "__init__") (Str.ofString "Signal.__init__") p13 (FuncBody.stmts b13) s13 (3 : Nat) (@List.nil (PySem.Str × Nat)) PySem.Value.none PySem.Value.none PySem.Value.none (Value.str (Str.ofString "gateloom.design") (330 : Nat)) (@none Nat) (Value.ref (132 : Nat)) PySem.Value.none (0 : Nat))) #[]) ::
(Obj.mk (Value.type "tuple") (@none Nat) (Data.seq #[] (0 : Nat)) #[]) ::
(Obj.mk PySem.Value.none (@none Nat) (Data.fields #[]) #[]) ::
(Obj.mk (Value.type "tuple") (@none Nat) (Data.seq #[(Value.str (Str.ofString "self") (367 : Nat))] (0 : Nat)) #[]) ::
(Obj.mk (Value.type "tuple") (@none Nat) (Data.seq #[] (0 : Nat)) #[]) ::
(Obj.mk PySem.Value.none (@none Nat) (Data.func (FuncData.mk (Str.ofString "is_net") (Str.ofString "Signal.is_net") p14 (FuncBody.stmts b14) s14 (0 : Nat) (@List.nil (PySem.Str × Nat)) PySem.Value.none PySem.Value.none PySem.Value.none PySem.Value.none (@none Nat) PySem.Value.none PySem.Value.none (0 : Nat))) #[]) ::
(Obj.mk (Value.type "code") (@none Nat) (Data.fields #[(Value.str (Str.ofString "is_net") (364 : Nat)), (Value.str (Str.ofString "Signal.is_net") (365 : Nat)), (Value.str (Str.ofString "/claim/cut.py") (366 : Nat)), (Value.int 103 (0 : Nat)), (Value.int 1 (0 : Nat)), (Value.int 0 (0 : Nat)), (Value.int 0 (0 : Nat)), (Value.int 3 (0 : Nat)), (Value.ref (134 : Nat)), (Value.bool Bool.true), (Value.int 181 (0 : Nat)), (Value.ref (135 : Nat)), PySem.Value.none, (Value.ref (136 : Nat)), (Value.ref (137 : Nat)), (Value.ref (138 : Nat)), (Value.int 368 (0 : Nat)), (Value.int 103 (0 : Nat)), (Value.str (Str.ofString "/claim/cut.py") (369 : Nat))]) #[]) ::
(Obj.mk (Value.type "function") (@none Nat) (Data.func (FuncData.mk (Str.ofString "is_net") (Str.ofString "Signal.is_net") p14 (FuncBody.stmts b14) s14 (3 : Nat) (@List.nil (PySem.Str × Nat)) PySem.Value.none PySem.Value.none PySem.Value.none (Value.str (Str.ofString "gateloom.design") (330 : Nat)) (@none Nat) (Value.ref (139 : Nat)) PySem.Value.none (0 : Nat))) #[]) ::
(Obj.mk (Value.type "tuple") (@none Nat) (Data.seq #[] (0 : Nat)) #[]) ::
(Obj.mk PySem.Value.none (@none Nat) (Data.fields #[]) #[]) ::
(Obj.mk (Value.type "tuple") (@none Nat) (Data.seq #[(Value.str (Str.ofString "self") (374 : Nat))] (0 : Nat)) #[]) ::
(Obj.mk (Value.type "tuple") (@none Nat) (Data.seq #[] (0 : Nat)) #[]) ::
(Obj.mk PySem.Value.none (@none Nat) (Data.func (FuncData.mk (Str.ofString "is_memory") (Str.ofString "Signal.is_memory") p15 (FuncBody.stmts b15) s15 (0 : Nat) (@List.nil (PySem.Str × Nat)) PySem.Value.none PySem.Value.none PySem.Value.none PySem.Value.none (@none Nat) PySem.Value.none PySem.Value.none (0 : Nat))) #[]) ::
(Obj.mk (Value.type "code") (@none Nat) (Data.fields #[(Value.str (Str.ofString "is_memory") (371 : Nat)), (Value.str (Str.ofString "Signal.is_memory") (372 : Nat)), (Value.str (Str.ofString "/claim/cut.py") (373 : Nat)), (Value.int 106 (0 : Nat)), (Value.int 1 (0 : Nat)), (Value.int 0 (0 : Nat)), (Value.int 0 (0 : Nat)), (Value.int 3 (0 : Nat)), (Value.ref (141 : Nat)), (Value.bool Bool.true), (Value.int 181 (0 : Nat)), (Value.ref (142 : Nat)), PySem.Value.none, (Value.ref (143 : Nat)), (Value.ref (144 : Nat)), (Value.ref (145 : Nat)), (Value.int 375 (0 : Nat)), (Value.int 106 (0 : Nat)), (Value.str (Str.ofString "/claim/cut.py") (376 : Nat))]) #[]) ::
(Obj.mk (Value.type "function") (@none Nat) (Data.func (FuncData.mk (Str.ofString "is_memory") (Str.ofString "Signal.is_memory") p15 (FuncBody.stmts b15) s15 (3 : Nat) (@List.nil (PySem.Str × Nat)) PySem.Value.none PySem.Value.none PySem.Value.none (Value.str (Str.ofString "gateloom.design") (330 : Nat)) (@none Nat) (Value.ref (146 : Nat)) PySem.Value.none (0 : Nat))) #[]) ::
(Obj.mk (Value.type "tuple") (@none Nat) (Data.seq #[] (0 : Nat)) #[]) ::
(Obj.mk PySem.Value.none (@none Nat) (Data.fields #[]) #[]) ::
(Obj.mk (Value.type "tuple") (@none Nat) (Data.seq #[(Value.str (Str.ofString "self") (381 : Nat))] (0 : Nat)) #[]) ::
(Obj.mk (Value.type "tuple") (@none Nat) (Data.seq #[] (0 : Nat)) #[]) ::
(Obj.mk PySem.Value.none (@none Nat) (Data.func (FuncData.mk (Str.ofString "words") (Str.ofString "Signal.words") p16 (FuncBody.stmts b16) s16 (0 : Nat) (@List.nil (PySem.Str × Nat)) PySem.Value.none PySem.Value.none PySem.Value.none PySem.Value.none (@none Nat) PySem.Value.none PySem.Value.none (0 : Nat))) #[]) ::
(Obj.mk (Value.type "code") (@none Nat) (Data.fields #[(Value.str (Str.ofString "words") (378 : Nat)), (Value.str (Str.ofString "Signal.words") (379 : Nat)), (Value.str (Str.ofString "/claim/cut.py") (380 : Nat)), (Value.int 109 (0 : Nat)), (Value.int 1 (0 : Nat)), (Value.int 0 (0 : Nat)), (Value.int 0 (0 : Nat)), (Value.int 3 (0 : Nat)), (Value.ref (148 : Nat)), (Value.bool Bool.true), (Value.int 181 (0 : Nat)), (Value.ref (149 : Nat)), PySem.Value.none, (Value.ref (150 : Nat)), (Value.ref (151 : Nat)), (Value.ref (152 : Nat)), (Value.int 382 (0 : Nat)), (Value.int 109 (0 : Nat)), (Value.str (Str.ofString "/claim/cut.py") (383 : Nat))]) #[]) ::
(Obj.mk (Value.type "function") (@none Nat) (Data.func (FuncData.mk (Str.ofString "words") (Str.ofString "Signal.words") p16 (FuncBody.stmts b16) s16 (3 : Nat) (@List.nil (PySem.Str × Nat)) PySem.Value.none PySem.Value.none PySem.Value.none (Value.str (Str.ofString "gateloom.design") (330 : Nat)) (@none Nat) (Value.ref (153 : Nat)) PySem.Value.none (0 : Nat))) #[]) ::
(Obj.mk (Value.type "tuple") (@none Nat) (Data.seq #[] (0 : Nat)) #[]) ::
(Obj.mk PySem.Value.none (@none Nat) (Data.fields #[]) #[]) ::
(Obj.mk (Value.type "tuple") (@none Nat) (Data.seq #[(Value.str (Str.ofString "self") (388 : Nat)), (Value.str (Str.ofString "index") (389 : Nat))] (0 : Nat)) #[]) ::
(Obj.mk (Value.type "tuple") (@none Nat) (Data.seq #[] (0 : Nat)) #[]) ::
(Obj.mk PySem.Value.none (@none Nat) (Data.func (FuncData.mk (Str.ofString "offset") (Str.ofString "Signal.offset") p17 (FuncBody.stmts b17) s17 (0 : Nat) (@List.nil (PySem.Str × Nat)) PySem.Value.none PySem.Value.none PySem.Value.none PySem.Value.none (@none Nat) PySem.Value.none PySem.Value.none (0 : Nat))) #[]) ::
(Obj.mk (Value.type "code") (@none Nat) (Data.fields #[(Value.str (Str.ofString "offset") (385 : Nat)), (Value.str (Str.ofString "Signal.offset") (386 : Nat)), (Value.str (Str.ofString "/claim/cut.py") (387 : Nat)), (Value.int 114 (0 : Nat)), (Value.int 2 (0 : Nat)), (Value.int 0 (0 : Nat)), (Value.int 0 (0 : Nat)), (Value.int 3 (0 : Nat)), (Value.ref (155 : Nat)), (Value.bool Bool.true), (Value.int 181 (0 : Nat)), (Value.ref (156 : Nat)), PySem.Value.none, (Value.ref (157 : Nat)), (Value.ref (158 : Nat)), (Value.ref (159 : Nat)), (Value.int 390 (0 : Nat)), (Value.int 114 (0 : Nat)), (Value.str (Str.ofString "/claim/cut.py") (391 : Nat))]) #[]) ::
(Obj.mk (Value.type "function") (@none Nat) (Data.func (FuncData.mk (Str.ofString "offset") (Str.ofString "Signal.offset") p17 (FuncBody.stmts b17) s17 (3 : Nat) (@List.nil (PySem.Str × Nat)) PySem.Value.none PySem.Value.none PySem.Value.none (Value.str (Str.ofString "gateloom.design") (330 : Nat)) (@none Nat) (Value.ref (160 : Nat)) PySem.Value.none (0 : Nat))) #[]) ::
(Obj.mk (Value.type "tuple") (@none Nat) (Data.seq #[] (0 : Nat)) #[]) ::
(Obj.mk PySem.Value.none (@none Nat) (Data.fields #[]) #[]) ::
(Obj.mk (Value.type "tuple") (@none Nat) (Data.seq #[(Value.str (Str.ofString "self") (396 : Nat)), (Value.str (Str.ofString "index") (397 : Nat)), (Value.str (Str.ofString "place") (398 : Nat))] (0 : Nat)) #[]) ::
(Obj.mk (Value.type "tuple") (@none Nat) (Data.seq #[] (0 : Nat)) #[]) ::
(Obj.mk PySem.Value.none (@none Nat) (Data.func (FuncData.mk (Str.ofString "place") (Str.ofString "Signal.place") p18 (FuncBody.stmts b18) s18 (0 : Nat) (@List.nil (PySem.Str × Nat)) PySem.Value.none PySem.Value.none PySem.Value.none PySem.Value.none (@none Nat) PySem.Value.none PySem.Value.none (0 : Nat))) #[]) ::
(Obj.mk (Value.type "code") (@none Nat) (Data.fields #[(Value.str (Str.ofString "place") (393 : Nat)), (Value.str (Str.ofString "Signal.place") (394 : Nat)), (Value.str (Str.ofString "/claim/cut.py") (395 : Nat)), (Value.int 117 (0 : Nat)), (Value.int 2 (0 : Nat)), (Value.int 0 (0 : Nat)), (Value.int 0 (0 : Nat)), (Value.int 3 (0 : Nat)), (Value.ref (162 : Nat)), (Value.bool Bool.true), (Value.int 181 (0 : Nat)), (Value.ref (163 : Nat)), PySem.Value.none, (Value.ref (164 : Nat)), (Value.ref (165 : Nat)), (Value.ref (166 : Nat)), (Value.int 399 (0 : Nat)), (Value.int 117 (0 : Nat)), (Value.str (Str.ofString "/claim/cut.py") (400 : Nat))]) #[]) ::
(Obj.mk (Value.type "function") (@none Nat) (Data.func (FuncData.mk (Str.ofString "place") (Str.ofString "Signal.place") p18 (FuncBody.stmts b18) s18 (3 : Nat) (@List.nil (PySem.Str × Nat)) PySem.Value.none PySem.Value.none PySem.Value.none (Value.str (Str.ofString "gateloom.design") (330 : Nat)) (@none Nat) (Value.ref (167 : Nat)) PySem.Value.none (0 : Nat))) #[]) ::
(Obj.mk (Value.type "tuple") (@none Nat) (Data.seq #[(Value.str (Str.ofString "at") (402 : Nat)), (Value.str (Str.ofString "first") (403 : Nat)), (Value.str (Str.ofString "init") (404 : Nat)), (Value.str (Str.ofString "key") (405 : Nat)), (Value.str (Str.ofString "kind") (406 : Nat)), (Value.str (Str.ofString "last") (407 : Nat)), (Value.str (Str.ofString "lsb") (408 : Nat)), (Value.str (Str.ofString "msb") (409 : Nat)), (Value.str (Str.ofString "path") (410 : Nat)), (Value.str (Str.ofString "scalar") (411 : Nat)), (Value.str (Str.ofString "signed") (412 : Nat)), (Value.str (Str.ofString "width") (413 : Nat))] (0 : Nat)) #[]) ::
(Obj.mk (Value.type "dict") (@none Nat) (Data.dict #[(DictEntry.mk (PyData.keyHash P (Str.ofString "__module__")) (Value.str (Str.ofString "__module__") (345 : Nat)) (Value.str (Str.ofString "gateloom.design") (330 : Nat))), (DictEntry.mk (PyData.keyHash P (Str.ofString "__firstlineno__")) (Value.str (Str.ofString "__firstlineno__") (349 : Nat)) (Value.int 87 (348 : Nat))), (DictEntry.mk (PyData.keyHash P (Str.ofString "__init__")) (Value.str (Str.ofString "__init__") (363 : Nat)) (Value.ref (133 : Nat))), (DictEntry.mk (PyData.keyHash P (Str.ofString "is_net")) (Value.str (Str.ofString "is_net") (370 : Nat)) (Value.ref (140 : Nat))), (DictEntry.mk (PyData.keyHash P (Str.ofString "is_memory")) (Value.str (Str.ofString "is_memory") (377 : Nat)) (Value.ref (147 : Nat))), (DictEntry.mk (PyData.keyHash P (Str.ofString "words")) (Value.str (Str.ofString "words") (384 : Nat)) (Value.ref (154 : Nat))), (DictEntry.mk (PyData.keyHash P (Str.ofString "offset")) (Value.str (Str.ofString "offset") (392 : Nat)) (Value.ref (161 : Nat))), (DictEntry.mk (PyData.keyHash P (Str.ofString "place")) (Value.str (Str.ofString "place") (401 : Nat)) (Value.ref (168 : Nat))), (DictEntry.mk (PyData.keyHash P (Str.ofString "__static_attributes__")) (Value.str (Str.ofString "__static_attributes__") (414 : Nat)) (Value.ref (169 : Nat))), (DictEntry.mk (PyData.keyHash P (Str.ofString "__dict__")) (Value.str (Str.ofString "__dict__") (416 : Nat)) (Value.ref (172 : Nat))), (DictEntry.mk (PyData.keyHash P (Str.ofString "__weakref__")) (Value.str (Str.ofString "__weakref__") (418 : Nat)) (Value.ref (173 : Nat))), (DictEntry.mk (PyData.keyHash P (Str.ofString "__doc__")) (Value.str (Str.ofString "__doc__") (419 : Nat)) PySem.Value.none)] (4 : Nat)) #[]) ::
(Obj.mk (Value.type "type") (@none Nat) (Data.cls (ClassData.mk (Str.ofString "Signal") [(Value.type "object")] [(Value.ref (171 : Nat)), (Value.type "object")] (170 : Nat) (Str.ofString "Signal") Bool.true [] [] Bool.false none Bool.false)) #[none, none, (some (Value.str (Str.ofString "Signal") (338 : Nat))), (some (Value.str (Str.ofString "Signal") (346 : Nat))), (some (Value.builtin "object.__new__")), (some (Value.bool Bool.true))]) ::
(Obj.mk (Value.type "getset_descriptor") (@none Nat) (Data.fields #[(Value.str (Str.ofString "__dict__") (415 : Nat)), (Value.ref (171 : Nat)), (Value.builtin "function.__dict__"), (Value.builtin "function.__dict__#set")]) #[]) ::
(Obj.mk (Value.type "getset_descriptor") (@none Nat) (Data.fields #[(Value.str (Str.ofString "__weakref__") (417 : Nat)), (Value.ref (171 : Nat)), (Value.builtin "ExceptionGroup.__weakref__"), PySem.Value.none]) #[]) ::
(Obj.mk (Value.type "super") (@none Nat) (Data.fields #[(Value.ref (171 : Nat)), (Value.ref (171 : Nat)), (Value.ref (171 : Nat))]) #[]) ::
(Obj.mk (Value.type "builtin_function_or_method") (@none Nat) (Data.fields #[(Value.builtin "object.__init_subclass__"), (Value.ref (171 : Nat))]) #[]) ::
(Obj.mk (Value.type "tuple") (@none Nat) (Data.seq #[] (0 : Nat)) #[]) ::
(Obj.mk (Value.type "builtin_function_or_method") (@none Nat) (Data.fields #[(Value.builtin "type.__prepare__"), (Value.type "type")]) #[]) ::
(Obj.mk (Value.type "dict") (@none Nat) (Data.dict #[(DictEntry.mk (PyData.keyHash P (Str.ofString "__module__")) (Value.str (Str.ofString "__module__") (429 : Nat)) (Value.str (Str.ofString "gateloom.design") (330 : Nat))), (DictEntry.mk (PyData.keyHash P (Str.ofString "__qualname__")) (Value.str (Str.ofString "__qualname__") (431 : Nat)) (Value.str (Str.ofString "Design") (430 : Nat))), (DictEntry.mk (PyData.keyHash P (Str.ofString "__firstlineno__")) (Value.str (Str.ofString "__firstlineno__") (433 : Nat)) (Value.int 127 (432 : Nat))), (DictEntry.mk (PyData.keyHash P (Str.ofString "__init__")) (Value.str (Str.ofString "__init__") (440 : Nat)) (Value.ref (189 : Nat))), (DictEntry.mk (PyData.keyHash P (Str.ofString "add_signal")) (Value.str (Str.ofString "add_signal") (455 : Nat)) (Value.ref (196 : Nat))), (DictEntry.mk (PyData.keyHash P (Str.ofString "add_scope")) (Value.str (Str.ofString "add_scope") (463 : Nat)) (Value.ref (203 : Nat))), (DictEntry.mk (PyData.keyHash P (Str.ofString "add_routine")) (Value.str (Str.ofString "add_routine") (474 : Nat)) (Value.ref (210 : Nat))), (DictEntry.mk (PyData.keyHash P (Str.ofString "add_process")) (Value.str (Str.ofString "add_process") (485 : Nat)) (Value.ref (217 : Nat))), (DictEntry.mk (PyData.keyHash P (Str.ofString "find")) (Value.str (Str.ofString "find") (493 : Nat)) (Value.ref (224 : Nat))), (DictEntry.mk (PyData.keyHash P (Str.ofString "routine")) (Value.str (Str.ofString "routine") (501 : Nat)) (Value.ref (231 : Nat))), (DictEntry.mk (PyData.keyHash P (Str.ofString "__static_attributes__")) (Value.str (Str.ofString "__static_attributes__") (514 : Nat)) (Value.ref (232 : Nat)))] (11 : Nat)) #[]) ::
(Obj.mk (Value.type "tuple") (@none Nat) (Data.seq #[] (0 : Nat)) #[]) ::
(Obj.mk PySem.Value.none (@none Nat) (Data.fields #[(Value.int 129 (0 : Nat)), (Value.int 4 (0 : Nat)), (Value.ref (188 : Nat)), (Value.int 143 (0 : Nat)), (Value.int 4 (0 : Nat)), (Value.ref (195 : Nat)), (Value.int 150 (0 : Nat)), (Value.int 4 (0 : Nat)), (Value.ref (202 : Nat)), (Value.int 153 (0 : Nat)), (Value.int 4 (0 : Nat)), (Value.ref (209 : Nat)), (Value.int 156 (0 : Nat)), (Value.int 4 (0 : Nat)), (Value.ref (216 : Nat)), (Value.int 159 (0 : Nat)), (Value.int 4 (0 : Nat)), (Value.ref (223 : Nat)), (Value.int 162 (0 : Nat)), (Value.int 4 (0 : Nat)), (Value.ref (230 : Nat))]) #[]) ::
(Obj.mk (Value.type "code") (@none Nat) (Data.fields #[(Value.str (Str.ofString "Design") (424 : Nat)), (Value.str (Str.ofString "Design") (425 : Nat)), (Value.str (Str.ofString "/claim/cut.py") (426 : Nat)), (Value.int 127 (0 : Nat)), (Value.int 0 (0 : Nat)), (Value.int 0 (0 : Nat)), (Value.int 0 (0 : Nat)), (Value.int 0 (0 : Nat)), (Value.ref (179 : Nat)), (Value.bool Bool.false), (Value.int 181 (0 : Nat)), (Value.ref (180 : Nat)), PySem.Value.none, PySem.Value.none, PySem.Value.none, PySem.Value.none, (Value.int 427 (0 : Nat)), (Value.int 127 (0 : Nat)), (Value.str (Str.ofString "/claim/cut.py") (428 : Nat))]) #[]) ::
(Obj.mk (Value.type "frame") (@none Nat) PySem.Data.plain #[(some (Value.ref (181 : Nat))), (some (Value.ref (3 : Nat))), (some (Value.ref (178 : Nat))), none, (some (Value.str (Str.ofString "gateloom.design") (330 : Nat))), none, (some (Value.ref (0 : Nat)))]) ::
(Obj.mk (Value.type "tuple") (@none Nat) (Data.seq #[] (0 : Nat)) #[]) ::
(Obj.mk PySem.Value.none (@none Nat) (Data.fields #[]) #[]) ::
(Obj.mk (Value.type "tuple") (@none Nat) (Data.seq #[(Value.str (Str.ofString "self") (437 : Nat))] (0 : Nat)) #[]) ::
(Obj.mk (Value.type "tuple") (@none Nat) (Data.seq #[] (0 : Nat)) #[]) ::
(Obj.mk PySem.Value.none (@none Nat) (Data.func (FuncData.mk (Str.ofString "__init__") (Str.ofString "Design.__init__") p19 (FuncBody.stmts b19) s19 (0 : Nat) (@List.nil (PySem.Str × Nat)) PySem.Value.none PySem.Value.none PySem.Value.none PySem.Value.none (@none Nat) PySem.Value.none PySem.Value.none (0 : Nat))) #[]) ::
(Obj.mk (Value.type "code") (@none Nat) (Data.fields #[(Value.str (Str.ofString "__init__") (434 : Nat)), (Value.str (Str.ofString "Design.__init__") (435 : Nat)), (Value.str (Str.ofString "/claim/cut.py") (436 : Nat)), (Value.int 129 (0 : Nat)), (Value.int 1 (0 : Nat)), (Value.int 0 (0 : Nat)), (Value.int 0 (0 : Nat)), (Value.int 3 (0 : Nat)), (Value.ref (183 : Nat)), (Value.bool Bool.true), (Value.int 181 (0 : Nat)), (Value.ref (184 : Nat)), PySem.Value.none, (Value.ref (185 : Nat)), (Value.ref (186 : Nat)), (Value.ref (187 : Nat)), (Value.int 438 (0 : Nat)), (Value.int 129 (0 : Nat)), (Value.str (Str.ofString "/claim/cut.py") (439 : Nat))]) #[]) ::
(Obj.mk (Value.type "function") (@none Nat) (Data.func (FuncData.mk (Str.ofString "__init__") (Str.ofString "Design.__init__") p19 (FuncBody.stmts b19) s19 (3 : Nat) (@List.nil (PySem.Str × Nat)) PySem.Value.none PySem.Value.none PySem.Value.none (Value.str (Str.ofString "gateloom.design") (330 : Nat)) (@none Nat) (Value.ref (188 : Nat)) PySem.Value.none (0 : Nat))) #[]) ::
(Obj.mk (Value.type "tuple") (@none Nat) (Data.seq #[] (0 : Nat)) #[]) ::
(Obj.mk PySem.Value.none (@none Nat) (Data.fields #[]) #[]) ::
(Obj.mk (Value.type "tuple") (@none Nat) (Data.seq #[(Value.str (Str.ofString "self") (444 : Nat)), (Value.str (Str.ofString "path") (445 : Nat)), (Value.str (Str.ofString "kind") (446 : Nat)), (Value.str (Str.ofString "width") (447 : Nat)), (Value.str (Str.ofString "signed") (448 : Nat)), (Value.str (Str.ofString "msb") (449 : Nat)), (Value.str (Str.ofString "lsb") (450 : Nat)), (Value.str (Str.ofString "at") (451 : Nat)), (Value.str (Str.ofString "signal") (452 : Nat))] (0 : Nat)) #[]) ::
(Obj.mk (Value.type "tuple") (@none Nat) (Data.seq #[] (0 : Nat)) #[]) ::
(Obj.mk PySem.Value.none (@none Nat) (Data.func (FuncData.mk (Str.ofString "add_signal") (Str.ofString "Design.add_signal") p20 (FuncBody.stmts b20) s20 (0 : Nat) (@List.nil (PySem.Str × Nat)) PySem.Value.none PySem.Value.none PySem.Value.none PySem.Value.none (@none Nat) PySem.Value.none PySem.Value.none (0 : Nat))) #[]) ::
(Obj.mk (Value.type "code") (@none Nat) (Data.fields #[(Value.str (Str.ofString "add_signal") (441 : Nat)), (Value.str (Str.ofString "Design.add_signal") (442 : Nat)), (Value.str (Str.ofString "/claim/cut.py") (443 : Nat)), (Value.int 143 (0 : Nat)), (Value.int 8 (0 : Nat)), (Value.int 0 (0 : Nat)), (Value.int 0 (0 : Nat)), (Value.int 3 (0 : Nat)), (Value.ref (190 : Nat)), (Value.bool Bool.true), (Value.int 181 (0 : Nat)), (Value.ref (191 : Nat)), PySem.Value.none, (Value.ref (192 : Nat)), (Value.ref (193 : Nat)), (Value.ref (194 : Nat)), (Value.int 453 (0 : Nat)), (Value.int 143 (0 : Nat)), (Value.str (Str.ofString "/claim/cut.py") (454 : Nat))]) #[]) ::
(Obj.mk (Value.type "function") (@none Nat) (Data.func (FuncData.mk (Str.ofString "add_signal") (Str.ofString "Design.add_signal") p20 (FuncBody.stmts b20) s20 (3 : Nat) (@List.nil (PySem.Str × Nat)) PySem.Value.none PySem.Value.none PySem.Value.none (Value.str (Str.ofString "gateloom.design") (330 : Nat)) (@none Nat) (Value.ref (195 : Nat)) PySem.Value.none (0 : Nat))) #[]) ::
(Obj.mk (Value.type "tuple") (@none Nat) (Data.seq #[] (0 : Nat)) #[]) ::
(Obj.mk PySem.Value.none (@none Nat) (Data.fields #[]) #[]) ::
(Obj.mk (Value.type "tuple") (@none Nat) (Data.seq #[(Value.str (Str.ofString "self") (459 : Nat)), (Value.str (Str.ofString "path") (460 : Nat))] (0 : Nat)) #[]) ::
(Obj.mk (Value.type "tuple") (@none Nat) (Data.seq #[] (0 : Nat)) #[]) ::
(Obj.mk PySem.Value.none (@none Nat) (Data.func (FuncData.mk (Str.ofString "add_scope") (Str.ofString "Design.add_scope") p21 (FuncBody.stmts b21) s21 (0 : Nat) (@List.nil (PySem.Str × Nat)) PySem.Value.none PySem.Value.none PySem.Value.none PySem.Value.none (@none Nat) PySem.Value.none PySem.Value.none (0 : Nat))) #[]) ::
(Obj.mk (Value.type "code") (@none Nat) (Data.fields #[(Value.str (Str.ofString "add_scope") (456 : Nat)), (Value.str (Str.ofString "Design.add_scope") (457 : Nat)), (Value.str (Str.ofString "/claim/cut.py") (458 : Nat)), (Value.int 150 (0 : Nat)), (Value.int 2 (0 : Nat)), (Value.int 0 (0 : Nat)), (Value.int 0 (0 : Nat)), (Value.int 3 (0 : Nat)), (Value.ref (197 : Nat)), (Value.bool Bool.true), (Value.int 181 (0 : Nat)), (Value.ref (198 : Nat)), PySem.Value.none, (Value.ref (199 : Nat)), (Value.ref (200 : Nat)), (Value.ref (201 : Nat)), (Value.int 461 (0 : Nat)), (Value.int 150 (0 : Nat)), (Value.str (Str.ofString "/claim/cut.py") (462 : Nat))]) #[]) ::
(Obj.mk (Value.type "function") (@none Nat) (Data.func (FuncData.mk (Str.ofString "add_scope") (Str.ofString "Design.add_scope") p21 (FuncBody.stmts b21) s21 (3 : Nat) (@List.nil (PySem.Str × Nat)) PySem.Value.none PySem.Value.none PySem.Value.none (Value.str (Str.ofString "gateloom.design") (330 : Nat)) (@none Nat) (Value.ref (202 : Nat)) PySem.Value.none (0 : Nat))) #[]) ::
(Obj.mk (Value.type "tuple") (@none Nat) (Data.seq #[] (0 : Nat)) #[]) ::
(Obj.mk PySem.Value.none (@none Nat) (Data.fields #[]) #[]) ::
(Obj.mk (Value.type "tuple") (@none Nat) (Data.seq #[(Value.str (Str.ofString "self") (467 : Nat)), (Value.str (Str.ofString "path") (468 : Nat)), (Value.str (Str.ofString "is_function") (469 : Nat)), (Value.str (Str.ofString "automatic") (470 : Nat)), (Value.str (Str.ofString "at") (471 : Nat))] (0 : Nat)) #[]) ::
(Obj.mk (Value.type "tuple") (@none Nat) (Data.seq #[] (0 : Nat)) #[]) ::
(Obj.mk PySem.Value.none (@none Nat) (Data.func (FuncData.mk (Str.ofString "add_routine") (Str.ofString "Design.add_routine") p22 (FuncBody.stmts b22) s22 (0 : Nat) (@List.nil (PySem.Str × Nat)) PySem.Value.none PySem.Value.none PySem.Value.none PySem.Value.none (@none Nat) PySem.Value.none PySem.Value.none (0 : Nat))) #[]) ::
(Obj.mk (Value.type "code") (@none Nat) (Data.fields #[(Value.str (Str.ofString "add_routine") (464 : Nat)), (Value.str (Str.ofString "Design.add_routine") (465 : Nat)), (Value.str (Str.ofString "/claim/cut.py") (466 : Nat)), (Value.int 153 (0 : Nat)), (Value.int 5 (0 : Nat)), (Value.int 0 (0 : Nat)), (Value.int 0 (0 : Nat)), (Value.int 3 (0 : Nat)), (Value.ref (204 : Nat)), (Value.bool Bool.true), (Value.int 181 (0 : Nat)), (Value.ref (205 : Nat)), PySem.Value.none, (Value.ref (206 : Nat)), (Value.ref (207 : Nat)), (Value.ref (208 : Nat)), (Value.int 472 (0 : Nat)), (Value.int 153 (0 : Nat)), (Value.str (Str.ofString "/claim/cut.py") (473 : Nat))]) #[]) ::
(Obj.mk (Value.type "function") (@none Nat) (Data.func (FuncData.mk (Str.ofString "add_routine") (Str.ofString "Design.add_routine") p22 (FuncBody.stmts b22) s22 (3 : Nat) (@List.nil (PySem.Str × Nat)) PySem.Value.none PySem.Value.none PySem.Value.none (Value.str (Str.ofString "gateloom.design") (330 : Nat)) (@none Nat) (Value.ref (209 : Nat)) PySem.Value.none (0 : Nat))) #[]) ::
(Obj.mk (Value.type "tuple") (@none Nat) (Data.seq #[] (0 : Nat)) #[]) ::
(Obj.mk PySem.Value.none (@none Nat) (Data.fields #[]) #[]) ::
(Obj.mk (Value.type "tuple") (@none Nat) (Data.seq #[(Value.str (Str.ofString "self") (478 : Nat)), (Value.str (Str.ofString "kind") (479 : Nat)), (Value.str (Str.ofString "body") (480 : Nat)), (Value.str (Str.ofString "path") (481 : Nat)), (Value.str (Str.ofString "at") (482 : Nat))] (0 : Nat)) #[]) ::
(Obj.mk (Value.type "tuple") (@none Nat) (Data.seq #[] (0 : Nat)) #[]) ::
(Obj.mk PySem.Value.none (@none Nat) (Data.func (FuncData.mk (Str.ofString "add_process") (Str.ofString "Design.add_process") p23 (FuncBody.stmts b23) s23 (0 : Nat) (@List.nil (PySem.Str × Nat)) PySem.Value.none PySem.Value.none PySem.Value.none PySem.Value.none (@none Nat) PySem.Value.none PySem.Value.none (0 : Nat))) #[]) ::
(Obj.mk (Value.type "code") (@none Nat) (Data.fields #[(Value.str (Str.ofString "add_process") (475 : Nat)), (Value.str (Str.ofString "Design.add_process") (476 : Nat)), (Value.str (Str.ofString "/claim/cut.py") (477 : Nat)), (Value.int 156 (0 : Nat)), (Value.int 5 (0 : Nat)), (Value.int 0 (0 : Nat)), (Value.int 0 (0 : Nat)), (Value.int 3 (0 : Nat)), (Value.ref (211 : Nat)), (Value.bool Bool.true), (Value.int 181 (0 : Nat)), (Value.ref (212 : Nat)), PySem.Value.none, (Value.ref (213 : Nat)), (Value.ref (214 : Nat)), (Value.ref (215 : Nat)), (Value.int 483 (0 : Nat)), (Value.int 156 (0 : Nat)), (Value.str (Str.ofString "/claim/cut.py") (484 : Nat))]) #[]) ::
(Obj.mk (Value.type "function") (@none Nat) (Data.func (FuncData.mk (Str.ofString "add_process") (Str.ofString "Design.add_process") p23 (FuncBody.stmts b23) s23 (3 : Nat) (@List.nil (PySem.Str × Nat)) PySem.Value.none PySem.Value.none PySem.Value.none (Value.str (Str.ofString "gateloom.design") (330 : Nat)) (@none Nat) (Value.ref (216 : Nat)) PySem.Value.none (0 : Nat))) #[]) ::
(Obj.mk (Value.type "tuple") (@none Nat) (Data.seq #[] (0 : Nat)) #[]) ::
(Obj.mk PySem.Value.none (@none Nat) (Data.fields #[]) #[]) ::
(Obj.mk (Value.type "tuple") (@none Nat) (Data.seq #[(Value.str (Str.ofString "self") (489 : Nat)), (Value.str (Str.ofString "path") (490 : Nat))] (0 : Nat)) #[]) ::
(Obj.mk (Value.type "tuple") (@none Nat) (Data.seq #[] (0 : Nat)) #[]) ::
(Obj.mk PySem.Value.none (@none Nat) (Data.func (FuncData.mk (Str.ofString "find") (Str.ofString "Design.find") p24 (FuncBody.stmts b24) s24 (0 : Nat) (@List.nil (PySem.Str × Nat)) PySem.Value.none PySem.Value.none PySem.Value.none PySem.Value.none (@none Nat) PySem.Value.none PySem.Value.none (0 : Nat))) #[]) ::
(Obj.mk (Value.type "code") (@none Nat) (Data.fields #[(Value.str (Str.ofString "find") (486 : Nat)), (Value.str (Str.ofString "Design.find") (487 : Nat)), (Value.str (Str.ofString "/claim/cut.py") (488 : Nat)), (Value.int 159 (0 : Nat)), (Value.int 2 (0 : Nat)), (Value.int 0 (0 : Nat)), (Value.int 0 (0 : Nat)), (Value.int 3 (0 : Nat)), (Value.ref (218 : Nat)), (Value.bool Bool.true), (Value.int 181 (0 : Nat)), (Value.ref (219 : Nat)), PySem.Value.none, (Value.ref (220 : Nat)), (Value.ref (221 : Nat)), (Value.ref (222 : Nat)), (Value.int 491 (0 : Nat)), (Value.int 159 (0 : Nat)), (Value.str (Str.ofString "/claim/cut.py") (492 : Nat))]) #[]) ::
(Obj.mk (Value.type "function") (@none Nat) (Data.func (FuncData.mk (Str.ofString "find") (Str.ofString "Design.find") p24 (FuncBody.stmts b24) s24 (3 : Nat) (@List.nil (PySem.Str × Nat)) PySem.Value.none PySem.Value.none PySem.Value.none (Value.str (Str.ofString "gateloom.design") (330 : Nat)) (@none Nat) (Value.ref (223 : Nat)) PySem.Value.none (0 : Nat))) #[]) ::
(Obj.mk (Value.type "tuple") (@none Nat) (Data.seq #[] (0 : Nat)) #[]) ::
(Obj.mk PySem.Value.none (@none Nat) (Data.fields #[]) #[]) ::
(Obj.mk (Value.type "tuple") (@none Nat) (Data.seq #[(Value.str (Str.ofString "self") (497 : Nat)), (Value.str (Str.ofString "n") (498 : Nat))] (0 : Nat)) #[]) ::
(Obj.mk (Value.type "tuple") (@none Nat) (Data.seq #[] (0 : Nat)) #[]) ::
(Obj.mk PySem.Value.none (@none Nat) (Data.func (FuncData.mk (Str.ofString "routine") (Str.ofString "Design.routine") p25 (FuncBody.stmts b25) s25 (0 : Nat) (@List.nil (PySem.Str × Nat)) PySem.Value.none PySem.Value.none PySem.Value.none PySem.Value.none (@none Nat) PySem.Value.none PySem.Value.none (0 : Nat))) #[]) ::
(Obj.mk (Value.type "code") (@none Nat) (Data.fields #[(Value.str (Str.ofString "routine") (494 : Nat)), (Value.str (Str.ofString "Design.routine") (495 : Nat)), (Value.str (Str.ofString "/claim/cut.py") (496 : Nat)), (Value.int 162 (0 : Nat)), (Value.int 2 (0 : Nat)), (Value.int 0 (0 : Nat)), (Value.int 0 (0 : Nat)), (Value.int 3 (0 : Nat)), (Value.ref (225 : Nat)), (Value.bool Bool.true), (Value.int 181 (0 : Nat)), (Value.ref (226 : Nat)), PySem.Value.none, (Value.ref (227 : Nat)), (Value.ref (228 : Nat)), (Value.ref (229 : Nat)), (Value.int 499 (0 : Nat)), (Value.int 162 (0 : Nat)), (Value.str (Str.ofString "/claim/cut.py") (500 : Nat))]) #[]) ::
(Obj.mk (Value.type "function") (@none Nat) (Data.func (FuncData.mk (Str.ofString "routine") (Str.ofString "Design.routine") p25 (FuncBody.stmts b25) s25 (3 : Nat) (@List.nil (PySem.Str × Nat)) PySem.Value.none PySem.Value.none PySem.Value.none (Value.str (Str.ofString "gateloom.design") (330 : Nat)) (@none Nat) (Value.ref (230 : Nat)) PySem.Value.none (0 : Nat))) #[]) ::
(Obj.mk (Value.type "tuple") (@none Nat) (Data.seq #[(Value.str (Str.ofString "assigns") (502 : Nat)), (Value.str (Str.ofString "by_path") (503 : Nat)), (Value.str (Str.ofString "gates") (504 : Nat)), (Value.str (Str.ofString "maker") (505 : Nat)), (Value.str (Str.ofString "nesting") (506 : Nat)), (Value.str (Str.ofString "ports") (507 : Nat)), (Value.str (Str.ofString "processes") (508 : Nat)), (Value.str (Str.ofString "routines") (509 : Nat)), (Value.str (Str.ofString "scopes") (510 : Nat)), (Value.str (Str.ofString "signals") (511 : Nat)), (Value.str (Str.ofString "tops") (512 : Nat)), (Value.str (Str.ofString "udps") (513 : Nat))] (0 : Nat)) #[]) ::
(Obj.mk (Value.type "dict") (@none Nat) (Data.dict #[(DictEntry.mk (PyData.keyHash P (Str.ofString "__module__")) (Value.str (Str.ofString "__module__") (429 : Nat)) (Value.str (Str.ofString "gateloom.design") (330 : Nat))), (DictEntry.mk (PyData.keyHash P (Str.ofString "__firstlineno__")) (Value.str (Str.ofString "__firstlineno__") (433 : Nat)) (Value.int 127 (432 : Nat))), (DictEntry.mk (PyData.keyHash P (Str.ofString "__init__")) (Value.str (Str.ofString "__init__") (440 : Nat)) (Value.ref (189 : Nat))), (DictEntry.mk (PyData.keyHash P (Str.ofString "add_signal")) (Value.str (Str.ofString "add_signal") (455 : Nat)) (Value.ref (196 : Nat))), (DictEntry.mk (PyData.keyHash P (Str.ofString "add_scope")) (Value.str (Str.ofString "add_scope") (463 : Nat)) (Value.ref (203 : Nat))), (DictEntry.mk (PyData.keyHash P (Str.ofString "add_routine")) (Value.str (Str.ofString "add_routine") (474 : Nat)) (Value.ref (210 : Nat))), (DictEntry.mk (PyData.keyHash P (Str.ofString "add_process")) (Value.str (Str.ofString "add_process") (485 : Nat)) (Value.ref (217 : Nat))), (DictEntry.mk (PyData.keyHash P (Str.ofString "find")) (Value.str (Str.ofString "find") (493 : Nat)) (Value.ref (224 : Nat))), (DictEntry.mk (PyData.keyHash P (Str.ofString "routine")) (Value.str (Str.ofString "routine") (501 : Nat)) (Value.ref (231 : Nat))), (DictEntry.mk (PyData.keyHash P (Str.ofString "__static_attributes__")) (Value.str (Str.ofString "__static_attributes__") (514 : Nat)) (Value.ref (232 : Nat))), (DictEntry.mk (PyData.keyHash P (Str.ofString "__dict__")) (Value.str (Str.ofString "__dict__") (516 : Nat)) (Value.ref (235 : Nat))), (DictEntry.mk (PyData.keyHash P (Str.ofString "__weakref__")) (Value.str (Str.ofString "__weakref__") (518 : Nat)) (Value.ref (236 : Nat))), (DictEntry.mk (PyData.keyHash P (Str.ofString "__doc__")) (Value.str (Str.ofString "__doc__") (519 : Nat)) PySem.Value.none)] (4 : Nat)) #[]) ::
(Obj.mk (Value.type "type") (@none Nat) (Data.cls (ClassData.mk (Str.ofString "Design") [(Value.type "object")] [(Value.ref (234 : Nat)), (Value.type "object")] (233 : Nat) (Str.ofString "Design") Bool.true [] [] Bool.false none Bool.false)) #[none, none, (some (Value.str (Str.ofString "Design") (422 : Nat))), (some (Value.str (Str.ofString "Design") (430 : Nat))), (some (Value.builtin "object.__new__")), (some (Value.bool Bool.true))]) ::
(Obj.mk (Value.type "getset_descriptor") (@none Nat) (Data.fields #[(Value.str (Str.ofString "__dict__") (515 : Nat)), (Value.ref (234 : Nat)), (Value.builtin "function.__dict__"), (Value.builtin "function.__dict__#set")]) #[]) ::
(Obj.mk (Value.type "getset_descriptor") (@none Nat) (Data.fields #[(Value.str (Str.ofString "__weakref__") (517 : Nat)), (Value.ref (234 : Nat)), (Value.builtin "ExceptionGroup.__weakref__"), PySem.Value.none]) #[]) ::
(Obj.mk (Value.type "super") (@none Nat) (Data.fields #[(Value.ref (234 : Nat)), (Value.ref (234 : Nat)), (Value.ref (234 : Nat))]) #[]) ::
(Obj.mk (Value.type "builtin_function_or_method") (@none Nat) (Data.fields #[(Value.builtin "object.__init_subclass__"), (Value.ref (234 : Nat))]) #[]) ::
(Obj.mk (Value.type "tuple") (@none Nat) (Data.seq #[] (0 : Nat)) #[]) ::
(Obj.mk PySem.Value.none (@none Nat) (Data.fields #[]) #[]) ::
(Obj.mk (Value.type "tuple") (@none Nat) (Data.seq #[(Value.str (Str.ofString "source") (527 : Nat)), (Value.str (Str.ofString "most") (528 : Nat)), (Value.str (Str.ofString "found") (529 : Nat))] (0 : Nat)) #[]) ::
(Obj.mk (Value.type "tuple") (@none Nat) (Data.seq #[] (0 : Nat)) #[]) ::
(Obj.mk PySem.Value.none (@none Nat) (Data.func (FuncData.mk (Str.ofString "_law_take") (Str.ofString "_law_take") p26 (FuncBody.stmts b26) s26 (0 : Nat) (@List.nil (PySem.Str × Nat)) PySem.Value.none PySem.Value.none PySem.Value.none PySem.Value.none (@none Nat) PySem.Value.none PySem.Value.none (0 : Nat))) #[]) ::
(Obj.mk (Value.type "code") (@none Nat) (Data.fields #[(Value.str (Str.ofString "_law_take") (524 : Nat)), (Value.str (Str.ofString "_law_take") (525 : Nat)), (Value.str (Str.ofString "/claim/cut.py") (526 : Nat)), (Value.int 165 (0 : Nat)), (Value.int 2 (0 : Nat)), (Value.int 0 (0 : Nat)), (Value.int 0 (0 : Nat)), (Value.int 3 (0 : Nat)), (Value.ref (239 : Nat)), (Value.bool Bool.true), (Value.int 181 (0 : Nat)), (Value.ref (240 : Nat)), PySem.Value.none, (Value.ref (241 : Nat)), (Value.ref (242 : Nat)), (Value.ref (243 : Nat)), (Value.int 530 (0 : Nat)), (Value.int 165 (0 : Nat)), (Value.str (Str.ofString "/claim/cut.py") (531 : Nat))]) #[]) ::
(Obj.mk (Value.type "function") (@none Nat) (Data.func (FuncData.mk (Str.ofString "_law_take") (Str.ofString "_law_take") p26 (FuncBody.stmts b26) s26 (3 : Nat) (@List.nil (PySem.Str × Nat)) PySem.Value.none PySem.Value.none PySem.Value.none (Value.str (Str.ofString "law_pq0454_01") (522 : Nat)) (@none Nat) (Value.ref (244 : Nat)) PySem.Value.none (0 : Nat))) #[]) ::
(Obj.mk (Value.type "tuple") (@none Nat) (Data.seq #[] (0 : Nat)) #[]) ::
(Obj.mk PySem.Value.none (@none Nat) (Data.fields #[]) #[]) ::
(Obj.mk PySem.Value.none (@none Nat) (Data.func (FuncData.mk (Str.ofString "law") (Str.ofString "law") p27 (FuncBody.stmts b27) s27 (0 : Nat) (@List.nil (PySem.Str × Nat)) PySem.Value.none PySem.Value.none PySem.Value.none PySem.Value.none (@none Nat) PySem.Value.none PySem.Value.none (0 : Nat))) #[]) ::
(Obj.mk (Value.type "code") (@none Nat) (Data.fields #[(Value.str (Str.ofString "law") (533 : Nat)), (Value.str (Str.ofString "law") (534 : Nat)), (Value.str (Str.ofString "/claim/cut.py") (535 : Nat)), (Value.int 173 (0 : Nat)), (Value.int 1 (0 : Nat)), (Value.int 0 (0 : Nat)), (Value.int 0 (0 : Nat)), (Value.int 3 (0 : Nat)), (Value.ref (246 : Nat)), (Value.bool Bool.true), (Value.int 181 (0 : Nat)), (Value.ref (247 : Nat)), PySem.Value.none, PySem.Value.none, PySem.Value.none, (Value.ref (248 : Nat)), (Value.int 536 (0 : Nat)), (Value.int 173 (0 : Nat)), (Value.str (Str.ofString "/claim/cut.py") (537 : Nat))]) #[]) ::
(Obj.mk (Value.type "function") (@none Nat) (Data.func (FuncData.mk (Str.ofString "law") (Str.ofString "law") p27 (FuncBody.stmts b27) s27 (3 : Nat) (@List.nil (PySem.Str × Nat)) PySem.Value.none PySem.Value.none PySem.Value.none (Value.str (Str.ofString "law_pq0454_01") (522 : Nat)) (@none Nat) (Value.ref (249 : Nat)) PySem.Value.none (0 : Nat))) #[]) :: [])) { }

def hd.asK : List Addr := [(nat_lit 2), (nat_lit 3), (nat_lit 15), (nat_lit 17), (nat_lit 18), (nat_lit 20), (nat_lit 21), (nat_lit 22), (nat_lit 24), (nat_lit 25), (nat_lit 27), (nat_lit 28), (nat_lit 29), (nat_lit 31), (nat_lit 32), (nat_lit 34), (nat_lit 35), (nat_lit 36), (nat_lit 38), (nat_lit 39), (nat_lit 41), (nat_lit 42), (nat_lit 43), (nat_lit 45), (nat_lit 46), (nat_lit 48), (nat_lit 49), (nat_lit 50), (nat_lit 52), (nat_lit 53), (nat_lit 55), (nat_lit 56), (nat_lit 57), (nat_lit 59), (nat_lit 60), (nat_lit 62), (nat_lit 63), (nat_lit 64), (nat_lit 66), (nat_lit 67), (nat_lit 69), (nat_lit 70), (nat_lit 78), (nat_lit 80), (nat_lit 81), (nat_lit 83), (nat_lit 84), (nat_lit 85), (nat_lit 87), (nat_lit 88), (nat_lit 90), (nat_lit 91), (nat_lit 92), (nat_lit 94), (nat_lit 95), (nat_lit 97), (nat_lit 98), (nat_lit 99), (nat_lit 101), (nat_lit 102), (nat_lit 104), (nat_lit 105), (nat_lit 106), (nat_lit 107), (nat_lit 108), (nat_lit 109), (nat_lit 110), (nat_lit 113), (nat_lit 115), (nat_lit 116), (nat_lit 118), (nat_lit 119), (nat_lit 127), (nat_lit 129), (nat_lit 130), (nat_lit 132), (nat_lit 133), (nat_lit 134), (nat_lit 136), (nat_lit 137), (nat_lit 139), (nat_lit 140), (nat_lit 141), (nat_lit 143), (nat_lit 144), (nat_lit 146), (nat_lit 147), (nat_lit 148), (nat_lit 150), (nat_lit 151), (nat_lit 153), (nat_lit 154), (nat_lit 155), (nat_lit 157), (nat_lit 158), (nat_lit 160), (nat_lit 161), (nat_lit 162), (nat_lit 164), (nat_lit 165), (nat_lit 167), (nat_lit 168), (nat_lit 169), (nat_lit 170), (nat_lit 171), (nat_lit 172), (nat_lit 173), (nat_lit 183), (nat_lit 185), (nat_lit 186), (nat_lit 188), (nat_lit 189), (nat_lit 190), (nat_lit 192), (nat_lit 193), (nat_lit 195), (nat_lit 196), (nat_lit 197), (nat_lit 199), (nat_lit 200), (nat_lit 202), (nat_lit 203), (nat_lit 204), (nat_lit 206), (nat_lit 207), (nat_lit 209), (nat_lit 210), (nat_lit 211), (nat_lit 213), (nat_lit 214), (nat_lit 216), (nat_lit 217), (nat_lit 218), (nat_lit 220), (nat_lit 221), (nat_lit 223), (nat_lit 224), (nat_lit 225), (nat_lit 227), (nat_lit 228), (nat_lit 230), (nat_lit 231), (nat_lit 232), (nat_lit 233), (nat_lit 234), (nat_lit 235), (nat_lit 236), (nat_lit 239), (nat_lit 241), (nat_lit 242), (nat_lit 244), (nat_lit 245), (nat_lit 246), (nat_lit 249), (nat_lit 250)]
set_option maxRecDepth 100000 in
theorem hd.asK_eq (P : Params) : hd.asK = (hd.heap_39 P).map (·.1) := by kernel_rfl

theorem hd.o1 : opening PySem.Challenge.pw_pq0454_01 = plainProg PySem.Challenge.pw_pq0454_01.main.scope.names := by kernel_rfl
theorem hd.o3 (s : Shared) : fenceModules? PySem.Challenge.pw_pq0454_01 s = some s := by kernel_rfl
set_option maxRecDepth 100000 in
theorem hd.size (w : World) : ((boot_heap w.params).isNs mainGlobals && (⟨[]⟩ : Array GenState).size == 0, (boot_heap w.params).objs.size, (boot_heap w.params).nsMap mainGlobals (Str.ofString "__annotations__")) = (true, 11, some (Value.ref 6)) := by kernel_rfl
noncomputable def hd.b : List Stmt := behindTheImports PySem.Challenge.pw_pq0454_01
noncomputable def hd.env : Env := { scope := PySem.Challenge.pw_pq0454_01.main.scope, locals := mainNs, globals := mainNs, cells := [], code := Value.ref 13, frame := some 14 }
noncomputable def hd.c : Code := Code.body hd.b hd.env
noncomputable def hd.q : Pos := { line := 0, col := 0, endLine := 0, endCol := 0 }
noncomputable def hd.ev : List Obj → List Obj
  | [] => []
  | [x] => [x]
  | x :: _ :: t => x :: hd.ev t
noncomputable def hd.bt : Nat → List Obj → BT
  | 0, _ => .nil
  | _ + 1, [] => .nil
  | k + 1, x :: t => .node x (hd.bt k (hd.ev t)) (hd.bt k (hd.ev t.tail))
noncomputable def hd.at (n : Nat) (x y : Obj) (P : Params) : BT := hd.bt 9 ((((hd.heapF P).objs.toList.take n).set 3 x).set 12 y)
noncomputable def hd.x1 (P : Params) : Obj := (Obj.mk (Value.type "dict") (@none Nat) (Data.dict #[(DictEntry.mk (PyData.keyHash P (Str.ofString "__name__")) (Value.str (Str.ofString "__name__") (165 : Nat)) (Value.str (Str.ofString "gateloom.store") (261 : Nat))), (DictEntry.mk (PyData.keyHash P (Str.ofString "__doc__")) (Value.str (Str.ofString "__doc__") (166 : Nat)) PySem.Value.none), (DictEntry.mk (PyData.keyHash P (Str.ofString "__package__")) (Value.str (Str.ofString "__package__") (167 : Nat)) PySem.Value.none), (DictEntry.mk (PyData.keyHash P (Str.ofString "__loader__")) (Value.str (Str.ofString "__loader__") (168 : Nat)) (Value.builtin "__main__.__loader__#opaque")), (DictEntry.mk (PyData.keyHash P (Str.ofString "__spec__")) (Value.str (Str.ofString "__spec__") (169 : Nat)) PySem.Value.none), (DictEntry.mk (PyData.keyHash P (Str.ofString "__annotations__")) (Value.str (Str.ofString "__annotations__") (170 : Nat)) (Value.ref (6 : Nat))), (DictEntry.mk (PyData.keyHash P (Str.ofString "__builtins__")) (Value.str (Str.ofString "__builtins__") (171 : Nat)) (Value.ref (4 : Nat))), (DictEntry.mk (PyData.keyHash P (Str.ofString "__file__")) (Value.str (Str.ofString "__file__") (173 : Nat)) (Value.str (Str.ofString "/claim/cut.py") (172 : Nat))), (DictEntry.mk (PyData.keyHash P (Str.ofString "__cached__")) (Value.str (Str.ofString "__cached__") (174 : Nat)) PySem.Value.none), (DictEntry.mk (PyData.keyHash P (Str.ofString "_wall")) (Value.str (Str.ofString "_wall") (193 : Nat)) (Value.ref (21 : Nat))), (DictEntry.mk (PyData.keyHash P (Str.ofString "mask")) (Value.str (Str.ofString "mask") (202 : Nat)) (Value.ref (28 : Nat))), (DictEntry.mk (PyData.keyHash P (Str.ofString "all_x")) (Value.str (Str.ofString "all_x") (210 : Nat)) (Value.ref (35 : Nat))), (DictEntry.mk (PyData.keyHash P (Str.ofString "all_z")) (Value.str (Str.ofString "all_z") (217 : Nat)) (Value.ref (42 : Nat))), (DictEntry.mk (PyData.keyHash P (Str.ofString "code")) (Value.str (Str.ofString "code") (225 : Nat)) (Value.ref (49 : Nat))), (DictEntry.mk (PyData.keyHash P (Str.ofString "codes")) (Value.str (Str.ofString "codes") (234 : Nat)) (Value.ref (56 : Nat))), (DictEntry.mk (PyData.keyHash P (Str.ofString "from_codes")) (Value.str (Str.ofString "from_codes") (244 : Nat)) (Value.ref (63 : Nat))), (DictEntry.mk (PyData.keyHash P (Str.ofString "put_slice")) (Value.str (Str.ofString "put_slice") (260 : Nat)) (Value.ref (70 : Nat)))] (17 : Nat)) #[])
noncomputable def hd.y1 : Obj := (Obj.mk PySem.Value.none (@none Nat) (Data.fields #[(Value.int 1 (0 : Nat)), (Value.int 0 (0 : Nat)), (Value.ref (20 : Nat)), (Value.int 5 (0 : Nat)), (Value.int 0 (0 : Nat)), (Value.ref (27 : Nat)), (Value.int 7 (0 : Nat)), (Value.int 0 (0 : Nat)), (Value.ref (34 : Nat)), (Value.int 10 (0 : Nat)), (Value.int 0 (0 : Nat)), (Value.ref (41 : Nat)), (Value.int 12 (0 : Nat)), (Value.int 0 (0 : Nat)), (Value.ref (48 : Nat)), (Value.int 14 (0 : Nat)), (Value.int 0 (0 : Nat)), (Value.ref (55 : Nat)), (Value.int 19 (0 : Nat)), (Value.int 0 (0 : Nat)), (Value.ref (62 : Nat)), (Value.int 26 (0 : Nat)), (Value.int 0 (0 : Nat)), (Value.ref (69 : Nat))]) #[])
noncomputable def hd.x2 (P : Params) : Obj := (Obj.mk (Value.type "dict") (@none Nat) (Data.dict #[(DictEntry.mk (PyData.keyHash P (Str.ofString "__name__")) (Value.str (Str.ofString "__name__") (165 : Nat)) (Value.str (Str.ofString "gateloom.design") (330 : Nat))), (DictEntry.mk (PyData.keyHash P (Str.ofString "__doc__")) (Value.str (Str.ofString "__doc__") (166 : Nat)) PySem.Value.none), (DictEntry.mk (PyData.keyHash P (Str.ofString "__package__")) (Value.str (Str.ofString "__package__") (167 : Nat)) PySem.Value.none), (DictEntry.mk (PyData.keyHash P (Str.ofString "__loader__")) (Value.str (Str.ofString "__loader__") (168 : Nat)) (Value.builtin "__main__.__loader__#opaque")), (DictEntry.mk (PyData.keyHash P (Str.ofString "__spec__")) (Value.str (Str.ofString "__spec__") (169 : Nat)) PySem.Value.none), (DictEntry.mk (PyData.keyHash P (Str.ofString "__annotations__")) (Value.str (Str.ofString "__annotations__") (170 : Nat)) (Value.ref (6 : Nat))), (DictEntry.mk (PyData.keyHash P (Str.ofString "__builtins__")) (Value.str (Str.ofString "__builtins__") (171 : Nat)) (Value.ref (4 : Nat))), (DictEntry.mk (PyData.keyHash P (Str.ofString "__file__")) (Value.str (Str.ofString "__file__") (173 : Nat)) (Value.str (Str.ofString "/claim/cut.py") (172 : Nat))), (DictEntry.mk (PyData.keyHash P (Str.ofString "__cached__")) (Value.str (Str.ofString "__cached__") (174 : Nat)) PySem.Value.none), (DictEntry.mk (PyData.keyHash P (Str.ofString "_wall")) (Value.str (Str.ofString "_wall") (193 : Nat)) (Value.ref (21 : Nat))), (DictEntry.mk (PyData.keyHash P (Str.ofString "mask")) (Value.str (Str.ofString "mask") (202 : Nat)) (Value.ref (28 : Nat))), (DictEntry.mk (PyData.keyHash P (Str.ofString "all_x")) (Value.str (Str.ofString "all_x") (210 : Nat)) (Value.ref (35 : Nat))), (DictEntry.mk (PyData.keyHash P (Str.ofString "all_z")) (Value.str (Str.ofString "all_z") (217 : Nat)) (Value.ref (42 : Nat))), (DictEntry.mk (PyData.keyHash P (Str.ofString "code")) (Value.str (Str.ofString "code") (225 : Nat)) (Value.ref (49 : Nat))), (DictEntry.mk (PyData.keyHash P (Str.ofString "codes")) (Value.str (Str.ofString "codes") (234 : Nat)) (Value.ref (56 : Nat))), (DictEntry.mk (PyData.keyHash P (Str.ofString "from_codes")) (Value.str (Str.ofString "from_codes") (244 : Nat)) (Value.ref (63 : Nat))), (DictEntry.mk (PyData.keyHash P (Str.ofString "put_slice")) (Value.str (Str.ofString "put_slice") (260 : Nat)) (Value.ref (70 : Nat))), (DictEntry.mk (PyData.keyHash P (Str.ofString "Store")) (Value.str (Str.ofString "Store") (329 : Nat)) (Value.ref (108 : Nat))), (DictEntry.mk (PyData.keyHash P (Str.ofString "net_kinds")) (Value.str (Str.ofString "net_kinds") (337 : Nat)) (Value.ref (119 : Nat)))] (19 : Nat)) #[])
noncomputable def hd.y2 : Obj := (Obj.mk PySem.Value.none (@none Nat) (Data.fields #[(Value.int 1 (0 : Nat)), (Value.int 0 (0 : Nat)), (Value.ref (20 : Nat)), (Value.int 5 (0 : Nat)), (Value.int 0 (0 : Nat)), (Value.ref (27 : Nat)), (Value.int 7 (0 : Nat)), (Value.int 0 (0 : Nat)), (Value.ref (34 : Nat)), (Value.int 10 (0 : Nat)), (Value.int 0 (0 : Nat)), (Value.ref (41 : Nat)), (Value.int 12 (0 : Nat)), (Value.int 0 (0 : Nat)), (Value.ref (48 : Nat)), (Value.int 14 (0 : Nat)), (Value.int 0 (0 : Nat)), (Value.ref (55 : Nat)), (Value.int 19 (0 : Nat)), (Value.int 0 (0 : Nat)), (Value.ref (62 : Nat)), (Value.int 26 (0 : Nat)), (Value.int 0 (0 : Nat)), (Value.ref (69 : Nat)), (Value.int 38 (0 : Nat)), (Value.int 0 (0 : Nat)), (Value.ref (76 : Nat)), (Value.int 85 (0 : Nat)), (Value.int 0 (0 : Nat)), (Value.ref (118 : Nat))]) #[])
noncomputable def hd.x3 (P : Params) : Obj := (Obj.mk (Value.type "dict") (@none Nat) (Data.dict #[(DictEntry.mk (PyData.keyHash P (Str.ofString "__name__")) (Value.str (Str.ofString "__name__") (165 : Nat)) (Value.str (Str.ofString "gateloom.design") (330 : Nat))), (DictEntry.mk (PyData.keyHash P (Str.ofString "__doc__")) (Value.str (Str.ofString "__doc__") (166 : Nat)) PySem.Value.none), (DictEntry.mk (PyData.keyHash P (Str.ofString "__package__")) (Value.str (Str.ofString "__package__") (167 : Nat)) PySem.Value.none), (DictEntry.mk (PyData.keyHash P (Str.ofString "__loader__")) (Value.str (Str.ofString "__loader__") (168 : Nat)) (Value.builtin "__main__.__loader__#opaque")), (DictEntry.mk (PyData.keyHash P (Str.ofString "__spec__")) (Value.str (Str.ofString "__spec__") (169 : Nat)) PySem.Value.none), (DictEntry.mk (PyData.keyHash P (Str.ofString "__annotations__")) (Value.str (Str.ofString "__annotations__") (170 : Nat)) (Value.ref (6 : Nat))), (DictEntry.mk (PyData.keyHash P (Str.ofString "__builtins__")) (Value.str (Str.ofString "__builtins__") (171 : Nat)) (Value.ref (4 : Nat))), (DictEntry.mk (PyData.keyHash P (Str.ofString "__file__")) (Value.str (Str.ofString "__file__") (173 : Nat)) (Value.str (Str.ofString "/claim/cut.py") (172 : Nat))), (DictEntry.mk (PyData.keyHash P (Str.ofString "__cached__")) (Value.str (Str.ofString "__cached__") (174 : Nat)) PySem.Value.none), (DictEntry.mk (PyData.keyHash P (Str.ofString "_wall")) (Value.str (Str.ofString "_wall") (193 : Nat)) (Value.ref (21 : Nat))), (DictEntry.mk (PyData.keyHash P (Str.ofString "mask")) (Value.str (Str.ofString "mask") (202 : Nat)) (Value.ref (28 : Nat))), (DictEntry.mk (PyData.keyHash P (Str.ofString "all_x")) (Value.str (Str.ofString "all_x") (210 : Nat)) (Value.ref (35 : Nat))), (DictEntry.mk (PyData.keyHash P (Str.ofString "all_z")) (Value.str (Str.ofString "all_z") (217 : Nat)) (Value.ref (42 : Nat))), (DictEntry.mk (PyData.keyHash P (Str.ofString "code")) (Value.str (Str.ofString "code") (225 : Nat)) (Value.ref (49 : Nat))), (DictEntry.mk (PyData.keyHash P (Str.ofString "codes")) (Value.str (Str.ofString "codes") (234 : Nat)) (Value.ref (56 : Nat))), (DictEntry.mk (PyData.keyHash P (Str.ofString "from_codes")) (Value.str (Str.ofString "from_codes") (244 : Nat)) (Value.ref (63 : Nat))), (DictEntry.mk (PyData.keyHash P (Str.ofString "put_slice")) (Value.str (Str.ofString "put_slice") (260 : Nat)) (Value.ref (70 : Nat))), (DictEntry.mk (PyData.keyHash P (Str.ofString "Store")) (Value.str (Str.ofString "Store") (329 : Nat)) (Value.ref (108 : Nat))), (DictEntry.mk (PyData.keyHash P (Str.ofString "net_kinds")) (Value.str (Str.ofString "net_kinds") (337 : Nat)) (Value.ref (119 : Nat))), (DictEntry.mk (PyData.keyHash P (Str.ofString "Signal")) (Value.str (Str.ofString "Signal") (421 : Nat)) (Value.ref (171 : Nat)))] (20 : Nat)) #[])
noncomputable def hd.y3 : Obj := (Obj.mk PySem.Value.none (@none Nat) (Data.fields #[(Value.int 1 (0 : Nat)), (Value.int 0 (0 : Nat)), (Value.ref (20 : Nat)), (Value.int 5 (0 : Nat)), (Value.int 0 (0 : Nat)), (Value.ref (27 : Nat)), (Value.int 7 (0 : Nat)), (Value.int 0 (0 : Nat)), (Value.ref (34 : Nat)), (Value.int 10 (0 : Nat)), (Value.int 0 (0 : Nat)), (Value.ref (41 : Nat)), (Value.int 12 (0 : Nat)), (Value.int 0 (0 : Nat)), (Value.ref (48 : Nat)), (Value.int 14 (0 : Nat)), (Value.int 0 (0 : Nat)), (Value.ref (55 : Nat)), (Value.int 19 (0 : Nat)), (Value.int 0 (0 : Nat)), (Value.ref (62 : Nat)), (Value.int 26 (0 : Nat)), (Value.int 0 (0 : Nat)), (Value.ref (69 : Nat)), (Value.int 38 (0 : Nat)), (Value.int 0 (0 : Nat)), (Value.ref (76 : Nat)), (Value.int 85 (0 : Nat)), (Value.int 0 (0 : Nat)), (Value.ref (118 : Nat)), (Value.int 87 (0 : Nat)), (Value.int 0 (0 : Nat)), (Value.ref (125 : Nat))]) #[])
noncomputable def hd.x4 (P : Params) : Obj := (Obj.mk (Value.type "dict") (@none Nat) (Data.dict #[(DictEntry.mk (PyData.keyHash P (Str.ofString "__name__")) (Value.str (Str.ofString "__name__") (165 : Nat)) (Value.str (Str.ofString "gateloom.design") (330 : Nat))), (DictEntry.mk (PyData.keyHash P (Str.ofString "__doc__")) (Value.str (Str.ofString "__doc__") (166 : Nat)) PySem.Value.none), (DictEntry.mk (PyData.keyHash P (Str.ofString "__package__")) (Value.str (Str.ofString "__package__") (167 : Nat)) PySem.Value.none), (DictEntry.mk (PyData.keyHash P (Str.ofString "__loader__")) (Value.str (Str.ofString "__loader__") (168 : Nat)) (Value.builtin "__main__.__loader__#opaque")), (DictEntry.mk (PyData.keyHash P (Str.ofString "__spec__")) (Value.str (Str.ofString "__spec__") (169 : Nat)) PySem.Value.none), (DictEntry.mk (PyData.keyHash P (Str.ofString "__annotations__")) (Value.str (Str.ofString "__annotations__") (170 : Nat)) (Value.ref (6 : Nat))), (DictEntry.mk (PyData.keyHash P (Str.ofString "__builtins__")) (Value.str (Str.ofString "__builtins__") (171 : Nat)) (Value.ref (4 : Nat))), (DictEntry.mk (PyData.keyHash P (Str.ofString "__file__")) (Value.str (Str.ofString "__file__") (173 : Nat)) (Value.str (Str.ofString "/claim/cut.py") (172 : Nat))), (DictEntry.mk (PyData.keyHash P (Str.ofString "__cached__")) (Value.str (Str.ofString "__cached__") (174 : Nat)) PySem.Value.none), (DictEntry.mk (PyData.keyHash P (Str.ofString "_wall")) (Value.str (Str.ofString "_wall") (193 : Nat)) (Value.ref (21 : Nat))), (DictEntry.mk (PyData.keyHash P (Str.ofString "mask")) (Value.str (Str.ofString "mask") (202 : Nat)) (Value.ref (28 : Nat))), (DictEntry.mk (PyData.keyHash P (Str.ofString "all_x")) (Value.str (Str.ofString "all_x") (210 : Nat)) (Value.ref (35 : Nat))), (DictEntry.mk (PyData.keyHash P (Str.ofString "all_z")) (Value.str (Str.ofString "all_z") (217 : Nat)) (Value.ref (42 : Nat))), (DictEntry.mk (PyData.keyHash P (Str.ofString "code")) (Value.str (Str.ofString "code") (225 : Nat)) (Value.ref (49 : Nat))), (DictEntry.mk (PyData.keyHash P (Str.ofString "codes")) (Value.str (Str.ofString "codes") (234 : Nat)) (Value.ref (56 : Nat))), (DictEntry.mk (PyData.keyHash P (Str.ofString "from_codes")) (Value.str (Str.ofString "from_codes") (244 : Nat)) (Value.ref (63 : Nat))), (DictEntry.mk (PyData.keyHash P (Str.ofString "put_slice")) (Value.str (Str.ofString "put_slice") (260 : Nat)) (Value.ref (70 : Nat))), (DictEntry.mk (PyData.keyHash P (Str.ofString "Store")) (Value.str (Str.ofString "Store") (329 : Nat)) (Value.ref (108 : Nat))), (DictEntry.mk (PyData.keyHash P (Str.ofString "net_kinds")) (Value.str (Str.ofString "net_kinds") (337 : Nat)) (Value.ref (119 : Nat))), (DictEntry.mk (PyData.keyHash P (Str.ofString "Signal")) (Value.str (Str.ofString "Signal") (421 : Nat)) (Value.ref (171 : Nat))), (DictEntry.mk (PyData.keyHash P (Str.ofString "Design")) (Value.str (Str.ofString "Design") (521 : Nat)) (Value.ref (234 : Nat)))] (21 : Nat)) #[])
noncomputable def hd.y4 : Obj := (Obj.mk PySem.Value.none (@none Nat) (Data.fields #[(Value.int 1 (0 : Nat)), (Value.int 0 (0 : Nat)), (Value.ref (20 : Nat)), (Value.int 5 (0 : Nat)), (Value.int 0 (0 : Nat)), (Value.ref (27 : Nat)), (Value.int 7 (0 : Nat)), (Value.int 0 (0 : Nat)), (Value.ref (34 : Nat)), (Value.int 10 (0 : Nat)), (Value.int 0 (0 : Nat)), (Value.ref (41 : Nat)), (Value.int 12 (0 : Nat)), (Value.int 0 (0 : Nat)), (Value.ref (48 : Nat)), (Value.int 14 (0 : Nat)), (Value.int 0 (0 : Nat)), (Value.ref (55 : Nat)), (Value.int 19 (0 : Nat)), (Value.int 0 (0 : Nat)), (Value.ref (62 : Nat)), (Value.int 26 (0 : Nat)), (Value.int 0 (0 : Nat)), (Value.ref (69 : Nat)), (Value.int 38 (0 : Nat)), (Value.int 0 (0 : Nat)), (Value.ref (76 : Nat)), (Value.int 85 (0 : Nat)), (Value.int 0 (0 : Nat)), (Value.ref (118 : Nat)), (Value.int 87 (0 : Nat)), (Value.int 0 (0 : Nat)), (Value.ref (125 : Nat)), (Value.int 127 (0 : Nat)), (Value.int 0 (0 : Nat)), (Value.ref (181 : Nat))]) #[])
theorem hd.cut {w : World} {l : List Stmt} {n N : Nat} {s s' : SharedT} {r : Shared} {c : Code} {pos p' : Pos} (k : Nat)
    (h : segRunT treeTable PySem.Challenge.pw_pq0454_01 w 11 (some (Value.ref 6)) 1 n s (piecesOf (l.take k) hd.env c pos [topFrame hd.q]) = some (.next, s', c, p'))
    (g : topRun treeTable PySem.Challenge.pw_pq0454_01 w 11 (some (Value.ref 6)) N s'.abs (restOf (l.drop k) hd.env c p' [topFrame hd.q]) = some r) :
    topRun treeTable PySem.Challenge.pw_pq0454_01 w 11 (some (Value.ref 6)) (n + N) s.abs (restOf l hd.env c pos [topFrame hd.q]) = some r := by
  have := piece_app (segRun_of h) g
  rwa [List.take_append_drop] at this
noncomputable def hd.y0 : Obj := (Obj.mk PySem.Value.none (@none Nat) (Data.fields #[]) #[])
set_option maxRecDepth 100000 in
set_option maxHeartbeats 0 in
theorem hd.r0 (w : World) (os : OsState) : topGo treeTable PySem.Challenge.pw_pq0454_01 w 11 (some (Value.ref 6)) 12 ⟨boot_heap w.params, ⟨[]⟩, boot_drawn, boot_toks, os⟩ (topStub PySem.Challenge.pw_pq0454_01) = some (⟨⟨⟨((((hd.heapF w.params).objs.toList.take 15).set 3 (boot_o_3 w.params)).set 12 hd.y0)⟩, {}⟩, ⟨[]⟩, {}, 187, os⟩, ⟨denote treeTable hd.c, hd.c, hd.q, [topFrame hd.q]⟩) := by
  rw [PySem.W.Fast.te15667345088766844465, PySem.W.Fast.te14364793385576792824, PySem.W.Fast.te11892475500146522536]
  kernel_rfl
set_option maxRecDepth 100000 in
set_option maxHeartbeats 0 in
theorem hd.rb (w : World) (os : OsState) : segRun treeTable PySem.Challenge.pw_pq0454_01 w 11 (some (Value.ref 6)) 1 1 ⟨⟨⟨((((hd.heapF w.params).objs.toList.take 15).set 3 (boot_o_3 w.params)).set 12 hd.y0)⟩, {}⟩, ⟨[]⟩, {}, 187, os⟩ (blockOf hd.b hd.env hd.c hd.q [topFrame hd.q]) = some (.next, SharedT.abs ⟨(hd.at 15 (boot_o_3 w.params) hd.y0 w.params), 15, {}, ⟨[]⟩, {}, 187, os⟩, hd.c, hd.q) := by
  rw [PySem.W.Fast.te14374325043358763698, PySem.W.Fast.te14364793385576792824]
  kernel_rfl
set_option maxRecDepth 100000 in
set_option maxHeartbeats 0 in
theorem hd.r1 (w : World) (os : OsState) : segRunT treeTable PySem.Challenge.pw_pq0454_01 w 11 (some (Value.ref 6)) 1 267 ⟨(hd.at 15 (boot_o_3 w.params) hd.y0 w.params), 15, {}, ⟨[]⟩, {}, 187, os⟩ (piecesOf ((hd.b).take 10) hd.env hd.c hd.q [topFrame hd.q]) = some (.next, ⟨(hd.at 71 (hd.x1 w.params) hd.y1 w.params), 71, {}, ⟨[]⟩, {}, 263, os⟩, hd.c, ⟨37, 0, 37, 8⟩) := by
  rw [PySem.W.Fast.te10110043849684766642, PySem.W.Fast.te14364793385576792824]
  kernel_rfl
set_option maxRecDepth 100000 in
set_option maxHeartbeats 0 in
theorem hd.r2 (w : World) (os : OsState) : segRunT treeTable PySem.Challenge.pw_pq0454_01 w 11 (some (Value.ref 6)) 1 370 ⟨(hd.at 71 (hd.x1 w.params) hd.y1 w.params), 71, {}, ⟨[]⟩, {}, 263, os⟩ (piecesOf ((hd.b.drop 10).take 3) hd.env hd.c ⟨37, 0, 37, 8⟩ [topFrame hd.q]) = some (.next, ⟨(hd.at 120 (hd.x2 w.params) hd.y2 w.params), 120, {}, ⟨[]⟩, {}, 338, os⟩, hd.c, ⟨85, 0, 86, 89⟩) := by
  rw [PySem.W.Fast.te10110043849684766642, PySem.W.Fast.te14364793385576792824]
  kernel_rfl
set_option maxRecDepth 100000 in
set_option maxHeartbeats 0 in
theorem hd.r3 (w : World) (os : OsState) : segRunT treeTable PySem.Challenge.pw_pq0454_01 w 11 (some (Value.ref 6)) 1 398 ⟨(hd.at 120 (hd.x2 w.params) hd.y2 w.params), 120, {}, ⟨[]⟩, {}, 338, os⟩ (piecesOf (((hd.b.drop 10).drop 3).take 1) hd.env hd.c ⟨85, 0, 86, 89⟩ [topFrame hd.q]) = some (.next, ⟨(hd.at 176 (hd.x3 w.params) hd.y3 w.params), 176, {}, ⟨[]⟩, {}, 422, os⟩, hd.c, ⟨87, 0, 126, 20⟩) := by
  rw [PySem.W.Fast.te10110043849684766642, PySem.W.Fast.te14364793385576792824]
  kernel_rfl
set_option maxRecDepth 100000 in
set_option maxHeartbeats 0 in
theorem hd.r4 (w : World) (os : OsState) : segRunT treeTable PySem.Challenge.pw_pq0454_01 w 11 (some (Value.ref 6)) 1 438 ⟨(hd.at 176 (hd.x3 w.params) hd.y3 w.params), 176, {}, ⟨[]⟩, {}, 422, os⟩ (piecesOf ((((hd.b.drop 10).drop 3).drop 1).take 1) hd.env hd.c ⟨87, 0, 126, 20⟩ [topFrame hd.q]) = some (.next, ⟨(hd.at 239 (hd.x4 w.params) hd.y4 w.params), 239, {}, ⟨[]⟩, {}, 522, os⟩, hd.c, ⟨127, 0, 163, 16⟩) := by
  rw [PySem.W.Fast.te10110043849684766642, PySem.W.Fast.te14364793385576792824]
  kernel_rfl
set_option maxRecDepth 100000 in
set_option maxHeartbeats 0 in
theorem hd.r5 (w : World) (os : OsState) : segRunT treeTable PySem.Challenge.pw_pq0454_01 w 11 (some (Value.ref 6)) 1 67 ⟨(hd.at 239 (hd.x4 w.params) hd.y4 w.params), 239, {}, ⟨[]⟩, {}, 522, os⟩ (piecesOf (((((hd.b.drop 10).drop 3).drop 1).drop 1).take 3) hd.env hd.c ⟨127, 0, 163, 16⟩ [topFrame hd.q]) = some (.next, ⟨(hd.bt 9 (hd.heapF w.params).objs.toList), 251, {}, ⟨[]⟩, {}, 539, os⟩, hd.c, ⟨173, 0, 217, 15⟩) := by
  rw [PySem.W.Fast.te10110043849684766642, PySem.W.Fast.te14364793385576792824]
  kernel_rfl
set_option maxRecDepth 100000 in
set_option maxHeartbeats 0 in
theorem hd.r6 (w : World) (os : OsState) : topRun treeTable PySem.Challenge.pw_pq0454_01 w 11 (some (Value.ref 6)) 2 (SharedT.abs ⟨(hd.bt 9 (hd.heapF w.params).objs.toList), 251, {}, ⟨[]⟩, {}, 539, os⟩) (restOf (((((hd.b.drop 10).drop 3).drop 1).drop 1).drop 3) hd.env hd.c ⟨173, 0, 217, 15⟩ [topFrame hd.q]) = some ⟨hd.heapF w.params, ⟨[]⟩, {}, 539, os⟩ := by
  rw [PySem.W.Fast.te14082659384304107361, PySem.W.Fast.te14364793385576792824]
  kernel_rfl
theorem hd.run (w : World) (os : OsState) : topRun treeTable PySem.Challenge.pw_pq0454_01 w 11 (some (Value.ref 6)) 1555 ⟨boot_heap w.params, ⟨[]⟩, boot_drawn, boot_toks, os⟩ (topStub PySem.Challenge.pw_pq0454_01) = some ⟨hd.heapF w.params, ⟨[]⟩, {}, 539, os⟩ :=
  go_top (N := 1543) (hd.r0 w os) (piece_block (N := 1542) (hd.rb w os) (hd.cut (N := 1275) 10 (hd.r1 w os) (hd.cut (N := 905) 3 (hd.r2 w os) (hd.cut (N := 507) 1 (hd.r3 w os) (hd.cut (N := 69) 1 (hd.r4 w os) (hd.cut (N := 2) 3 (hd.r5 w os) (hd.r6 w os)))))))
set_option maxRecDepth 100000 in
set_option maxHeartbeats 0 in
theorem hd.looks1 {mods : List Str} (hm : mods = []) (w : World) (os : OsState) : (staticsOk mods (boot_heap w.params) (hd.heapF w.params) && namesBound PySem.Challenge.pw_pq0454_01 (hd.heapF w.params) && gensDone ⟨hd.heapF w.params, ⟨[]⟩, {}, 539, os⟩ && laidKept (boot_heap w.params) (hd.heapF w.params)) = true := by
  subst hm
  kernel_rfl
set_option maxRecDepth 100000 in
set_option maxHeartbeats 0 in
theorem hd.looks2 {mods : List Str} (hm : mods = []) (w : World) (os : OsState) : openSeen hd.view_39 [] mods (fun s => xlAt hd.view_39 [] s && recOk [] s) true ⟨hd.heapF w.params, ⟨[]⟩, {}, 539, os⟩ = openGood hd.view_39 [] := by
  subst hm
  rw [PySem.W.Fast.te4187177175401517315]
  kernel_rfl
set_option maxRecDepth 100000 in
theorem hd.looks3 (w : World) (os : OsState) : (kHook hd.heap_39 hd.asK hd.asK_eq).obs ⟨hd.heapF w.params, ⟨[]⟩, {}, 539, os⟩ = (kHook hd.heap_39 hd.asK hd.asK_eq).val w := by kernel_rfl
set_option maxRecDepth 100000 in
set_option maxHeartbeats 0 in
theorem hd.said : PySem.Challenge.rw_pq0454_01.wellSaid = true := by
  rw [PySem.W.Fast.te9446332074065402090]
  kernel_rfl
theorem hd.left : LeftO PySem.Challenge.pw_pq0454_01 hd.view_39 [] (fun s => xlAt hd.view_39 [] s && recOk [] s) (kHook hd.heap_39 hd.asK hd.asK_eq).obs (kHook hd.heap_39 hd.asK hd.asK_eq).val 3196 :=
  LeftO.of_pieces (boot_open hd.o1 rfl hd.o3) hd.size hd.run rfl fun w => funext fun os => looks_pair (hd.looks1 (by kernel_rfl) w os) (looks_pair (hd.looks2 (by kernel_rfl) w os) (hd.looks3 w os))
end
section
def codeV (x y i : Int) : Int := Builtin.bitAnd (x.fdiv (2 ^ i.toNat)) 1 + 2 * Builtin.bitAnd (y.fdiv (2 ^ i.toNat)) 1
def codesV (n x y : Int) : List Int := (List.range n.toNat).map fun (i : Nat) => codeV x y (i : Int)
def encA (cs : List Int) : Int := (List.range cs.length).foldl (fun a i => Builtin.bitOr a (Builtin.bitAnd (cs.getD i 0) 1 * 2 ^ i)) 0
def encB (cs : List Int) : Int := (List.range cs.length).foldl (fun a i => Builtin.bitOr a ((cs.getD i 0).fdiv (2 ^ 1) * 2 ^ i)) 0
def pfirst (lo : Int) : Int := if 0 > lo then 0 else lo
def plast (n lo pn : Int) : Int := if n < lo + pn then n else lo + pn
def planeV (n lo pn x px : Int) : Int :=
  if plast n lo pn ≤ pfirst lo then x else
    Builtin.bitOr (Builtin.bitAnd x (Builtin.bitXor (2 ^ n.toNat - 1) ((2 ^ (plast n lo pn - pfirst lo).toNat - 1) * 2 ^ (pfirst lo).toNat)))
      (Builtin.bitAnd (px.fdiv (2 ^ (pfirst lo - lo).toNat)) (2 ^ (plast n lo pn - pfirst lo).toNat - 1) * 2 ^ (pfirst lo).toNat)
end
section
abbrev Led := List (Addr × Obj)

def Con (w : World) (p : Program) (loose : List Str) (mean : ExcName → Option Value) (mg mb : Str → Option Value) (f : Addr) (dep units : Nat) (vs : List Value) (Pre : Led → Prop) (Post : Led → Value → Led → Prop) : Prop :=
  ∀ (dp un : Nat) (gd : Option (List Code)) (cn : Str) (cs : Scope) (a : Addr) (ccd : Value) (cl : List (Str × Addr)) (outer : List Env) (A₀ : Around) (base h₀ : Heap) (L : Addr) (m : Str → Option Value) (news : Led) (s : Shared)
    (Q E : Value → Shared → Prop),
    Below A₀ base outer h₀ → Fr h₀ L s.heap m → (Mine.hd.heap_39 w.params).In h₀ → News h₀ L s.heap news → Top p loose mean mg mb h₀ → cs.kind = .function → Pre news → dp + dep < recursionLimit → un + units < cLine →
    (∀ r news' h' tk', Fr h₀ L h' m → News h₀ L h' news' → Post news r news' → Q r { s with heap := h', toks := tk' }) →
    wpAny (model PySem.Challenge.rw_pq0454_01.row.prog w) (ktrTop dp un gd cn cs L a ccd cl outer) (call (.ref f) vs) Q E s

theorem con_use {w : World} {p : Program} {loose : List Str} {mean : ExcName → Option Value} {mg mb : Str → Option Value} {f : Addr} {dep units : Nat} {vs : List Value} {Pre : Led → Prop} {Post : Led → Value → Led → Prop}
    {dp un : Nat} {gd : Option (List Code)} {cn : Str} {cs : Scope} {a : Addr} {ccd : Value} {cl : List (Str × Addr)} {outer : List Env} {A₀ : Around} {base h₀ : Heap} {L : Addr} {m : Str → Option Value} {news : Led} {s : Shared}
    {Q E : Value → Shared → Prop} (C : Con w p loose mean mg mb f dep units vs Pre Post)
    (B : Below A₀ base outer h₀) (F : Fr h₀ L s.heap m) (X : (Mine.hd.heap_39 w.params).In h₀) (N : News h₀ L s.heap news) (T : Top p loose mean mg mb h₀) (hk : cs.kind = .function) (hp : Pre news) (hd : dp + dep < recursionLimit) (hu : un + units < cLine)
    (ret : ∀ r news' h' tk', Fr h₀ L h' m → News h₀ L h' news' → Post news r news' → Q r { s with heap := h', toks := tk' }) :
    wpAny (model PySem.Challenge.rw_pq0454_01.row.prog w) (ktrTop dp un gd cn cs L a ccd cl outer) (call (.ref f) vs) Q E s :=
  C _ _ _ _ _ _ _ _ _ _ _ _ _ _ _ _ _ _ B F X N T hk hp hd hu ret

def Stay (h h' : Heap) (P : Led) : Prop := ∀ b o, h.get? b = some o → b ∉ P.map (·.1) → h'.get? b = some o

def ConF (w : World) (p : Program) (loose : List Str) (mean : ExcName → Option Value) (mg mb : Str → Option Value) (f : Addr) (dep units : Nat) (vs : List Value) (P : Led) (Post : Value → Led → Prop) : Prop :=
  ∀ (dp un : Nat) (gd : Option (List Code)) (cn : Str) (cs : Scope) (a : Addr) (ccd : Value) (cl : List (Str × Addr)) (outer : List Env) (A₀ : Around) (base h₀ : Heap) (L : Addr) (m : Str → Option Value) (s : Shared)
    (Q E : Value → Shared → Prop),
    Below A₀ base outer h₀ → Fr h₀ L s.heap m → (Mine.hd.heap_39 w.params).In h₀ → News h₀ L s.heap P → Top p loose mean mg mb h₀ → cs.kind = .function → dp + dep < recursionLimit → un + units < cLine →
    (∀ r P' h' tk', Fr h₀ L h' m → News h₀ L h' P' → Stay s.heap h' P → Post r P' → Q r { s with heap := h', toks := tk' }) →
    wpAny (model PySem.Challenge.rw_pq0454_01.row.prog w) (ktrTop dp un gd cn cs L a ccd cl outer) (call (.ref f) vs) Q E s

theorem code_defF {prog : Program} {w : World} {A A₀ : Around} {s : Shared} {K : Frag} {L : Addr} {h₀ base : Heap} {m mg mb : Str → Option Value} {news : Led} {p : Program} {loose : List Str} {mean : ExcName → Option Value}
    {env : Env} {outer : List Env} {R : Result → Shared → Prop} {name qual : Str} {params : Arguments} {body : List Stmt} {scope : Scope} {dV kV doc pm cdv ct oc : Value} {an od : Option Addr} {osl : Array (Option Value)} {f : Addr} {args : Args} {binds : List (Str × Value)}
    (B : Below A₀ base outer h₀) (F : Fr h₀ L s.heap m) (X₀ : K.In h₀) (N : News h₀ L s.heap news) (T : Top p loose mean mg mb h₀) (hA : A.frames = some (env :: outer)) (hf : env.frame = some L) (hke : env.scope.kind = .function)
    (ho : K.lookup f = some ⟨oc, od, .func (fnOf name qual params body scope dV kV doc pm an cdv ct), osl⟩) (hcd : codeIn K cdv qual = true) (hroom : A.depth < recursionLimit)
    (hbind : BindsTo s (fnOf name qual params body scope dV kV doc pm an cdv ct) args binds) (hloc : ∀ y ∈ binds, scope.names.lookup y.1 = some .local)
    (h : ∀ g L' h₁, Fr h₀ L g m → Fr g L' h₁ (fun y => binds.reverse.lookup y) → News g L' h₁ news → Below A base (env :: outer) g → K.In g → Top p loose mean mg mb g → Stay s.heap g news →
      wpAny (model prog w) (A.deeper (envOf qual scope L' f cdv)) (execs body (envOf qual scope L' f cdv))
        (fun fl s' => LeaveK h₀ L m g R (match fl with | .ret v => v | _ => .none) s')
        (fun e s' => wpAny (model prog w) (A.deeper (envOf qual scope L' f cdv)) (leaving (envOf qual scope L' f cdv) e) (fun _ s'' => R (.error e) s'') (fun e' s'' => R (.error e') s'') s')
        { s with heap := h₁, toks := s.toks + binds.length })
    (hco : scope.isCoroutine = false) (hgen : scope.isGenerator = false) (hk : scope.kind = .function)
    (hcell : ∀ x ∈ scope.names, x.2 ≠ .cell) : codeAny (model prog w) A (.call (.ref f) args) R s := by
  obtain ⟨FG, BG, st, lv⟩ := groundX (R := R) B F N hA hf hke
  refine codeAny_call_def (fd := fnOf name qual params body scope dV kV doc pm an cdv ct) (body := body) (binds := binds) hroom ((X₀.keeps F.keep) _ _ ho) rfl (T.nolimit.keeps F.keep) (codeRec_of (X₀.keeps F.keep) hcd) rfl hbind hcell hloc (fun h₁ hns hk₁ => ?_) hco hgen hk
  have F' : Fr (hideAll s.heap (news.map (·.1))) s.heap.objs.size h₁ (fun y => binds.reverse.lookup y) := ⟨hns, fun b o e => hk₁ b o (of_hideAll _ e), Nat.le_of_eq (hideAll_size _ _)⟩
  have N' : News (hideAll s.heap (news.map (·.1))) s.heap.objs.size h₁ news := fun q hq => ⟨hk₁ _ _ (N q hq).1, Nat.ne_of_lt (Heap.lt_size (N q hq).1), hideAll_none _ (List.mem_map_of_mem hq)⟩
  exact wpAny_mono (h _ _ h₁ FG F' N' BG (X₀.keeps st) (T.keeps st) fun b o e n => hideAll_get _ e n) (fun fl s' hl => lv _ _ hl) fun _ _ y => y

theorem con_of {w : World} {p : Program} {loose : List Str} {mean : ExcName → Option Value} {mg mb : Str → Option Value} {f : Addr} {dep units : Nat} {vs : List Value} {P : Led} {Post : Value → Led → Prop}
    (C : ConF w p loose mean mg mb f dep units vs P (fun r P' => ∃ tl, P' = tl ++ P ∧ Post r tl)) :
    Con w p loose mean mg mb f dep units vs (fun news => ∀ q ∈ P, q ∈ news) (fun news r news' => ∃ tl, news' = tl ++ news ∧ (∀ q ∈ P, q ∈ news) ∧ Post r tl) := by
  intro dp un gd cn cs a ccd cl outer A₀ base h₀ L m news s Q E B F X N T hk hp hd hu hret
  refine C dp un gd cn cs a ccd cl outer A₀ base h₀ L m s Q E B F X (fun q hq => N q (hp q hq)) T hk hd hu ?_
  rintro r P' h' tk' F' N' st ⟨tl, rfl, hpost⟩
  refine hret r (tl ++ news) h' tk' F' (fun q hq => ?_) ⟨tl, rfl, hp, hpost⟩
  rcases List.mem_append.mp hq with hq | hq
  · exact N' q (List.mem_append.mpr (.inl hq))
  · by_cases hm : q.1 ∈ P.map (·.1)
    · obtain ⟨q', hq', e⟩ := List.mem_map.mp hm
      have h1 := (N _ (hp q' hq')).1
      have h2 := (N q hq).1
      have e1 : q'.1 = q.1 := e
      rw [e1, h2] at h1
      have : q = q' := Prod.ext e1.symm (Option.some.inj h1)
      rw [this]
      exact N' q' (List.mem_append.mpr (.inr hq'))
    · exact ⟨st _ _ (N q hq).1 hm, (N q hq).2⟩

theorem item_led {prog : Program} {w : World} {A : Around} {E : Value → Shared → Prop} {s : Shared} {value slice : PySem.Expr} {base : Heap} {L l : Addr} {news : Led} {its : Array Value} {nn : Nat} {k : Int} {u : Tok} {v : Value} {Q : Value → Shared → Prop}
    (N : News base L s.heap news) (hm : (l, listOf its nn) ∈ news) (h0 : 0 ≤ k) (hhi : k < 2 ^ 63) (hx : its[k.toNat]? = some v) (h : Q v s)
    (hs : subscripted slice false (.ref l) (.int k u) = operate [.ref l, .int k u] (getItem (.ref l) (.int k u)) := by with_unfolding_all rfl) :
    wpAny (model prog w) A (subscriptTail value slice (.ref l) (.int k u)) Q E s :=
  tail_any (N.isList hm).typeIs slot_list_getitem.lookup (wpAny_getItem_list (N.isList hm) h0 hhi hx h) hs

theorem na_and {x y : Int} (h0 : 0 ≤ y) (h1 : y < 2 ^ 63) : (Builtin.bitAnd x y).natAbs < 2 ^ 64 := by
  have := bitAnd_range x h0
  omega
theorem na_fdiv {x : Int} {k : Nat} (h0 : 0 ≤ x) (h1 : x < 2 ^ 63) : (x.fdiv (2 ^ k)).natAbs < 2 ^ 64 := by
  have hp : (0 : Int) < 2 ^ k := Int.pow_pos (by decide)
  rw [Int.fdiv_eq_ediv_of_nonneg _ (Int.le_of_lt hp)]
  have h2 : 0 ≤ x / 2 ^ k := Int.ediv_nonneg h0 (Int.le_of_lt hp)
  have h3 : x / 2 ^ k ≤ x := Int.ediv_le_self _ h0
  omega
theorem mask_lt {n : Int} (h0 : 0 ≤ n) (h1 : n ≤ 8) : 0 ≤ (2 : Int) ^ n.toNat - 1 ∧ (2 : Int) ^ n.toNat - 1 < 2 ^ 63 := by
  obtain ⟨k, rfl⟩ := Int.eq_ofNat_of_zero_le h0
  have hk : k ≤ 8 := by omega
  show 0 ≤ (2 : Int) ^ k - 1 ∧ (2 : Int) ^ k - 1 < 2 ^ 63
  have hc : k = 0 ∨ k = 1 ∨ k = 2 ∨ k = 3 ∨ k = 4 ∨ k = 5 ∨ k = 6 ∨ k = 7 ∨ k = 8 := by omega
  rcases hc with rfl | rfl | rfl | rfl | rfl | rfl | rfl | rfl | rfl <;> decide
theorem na_mask {n : Int} (h0 : 0 ≤ n) (h1 : n ≤ 8) : ((2 : Int) ^ n.toNat - 1).natAbs < 2 ^ 64 := by
  have := mask_lt h0 h1
  omega
theorem na_andmask {x n : Int} (h0 : 0 ≤ n) (h1 : n ≤ 8) : (Builtin.bitAnd x ((2 : Int) ^ n.toNat - 1)).natAbs < 2 ^ 64 := na_and (mask_lt h0 h1).1 (mask_lt h0 h1).2

theorem con_mono {w : World} {p : Program} {loose : List Str} {mean : ExcName → Option Value} {mg mb : Str → Option Value} {f : Addr} {dep units : Nat} {vs : List Value} {Pre Pre' : Led → Prop} {Post Post' : Led → Value → Led → Prop}
    (C : Con w p loose mean mg mb f dep units vs Pre Post) (h1 : ∀ news, Pre' news → Pre news) (h2 : ∀ news r news', Post news r news' → Post' news r news') :
    Con w p loose mean mg mb f dep units vs Pre' Post' := by
  intro dp un gd cn cs a ccd cl outer A₀ base h₀ L m news s Q E B F X N T hk hp hd hu hret
  exact C dp un gd cn cs a ccd cl outer A₀ base h₀ L m news s Q E B F X N T hk (h1 _ hp) hd hu fun r news' h' tk' F' N' hpost => hret r news' h' tk' F' N' (h2 _ _ _ hpost)
theorem con_pre {w : World} {p : Program} {loose : List Str} {mean : ExcName → Option Value} {mg mb : Str → Option Value} {f : Addr} {dep units : Nat} {vs : List Value} {Pre : Led → Prop} {Post : Led → Value → Led → Prop}
    (C : ∀ news, Pre news → Con w p loose mean mg mb f dep units vs (fun n => n = news ∧ Pre n) Post) : Con w p loose mean mg mb f dep units vs Pre Post := by
  intro dp un gd cn cs a ccd cl outer A₀ base h₀ L m news s Q E B F X N T hk hp hd hu hret
  exact C news hp dp un gd cn cs a ccd cl outer A₀ base h₀ L m news s Q E B F X N T hk ⟨rfl, hp⟩ hd hu hret
end
section
local macro_rules | `(tactic| walk_at "my end") => `(tactic| (refine hret _ _ _ _ (by assumption) (by assumption) ?_))

abbrev tupO (x y z : Value) : Obj := { cls := .type "tuple", data := .seq #[x, y, z] }

set_option maxRecDepth 100000 in
set_option maxHeartbeats 8000000 in
theorem con_mask {w : World} {p : Program} {loose : List Str} {mean : ExcName → Option Value} {mg mb : Str → Option Value} {n : Int} {t : Tok} (h0 : 0 ≤ n) (h8 : n ≤ 8) :
    Con w p loose mean mg mb 28 1 8 [.int n t] (fun _ => True) (fun news r news' => news = news' ∧ ∃ t', r = .int ((2:Int)^n.toNat - 1) t') := by
  unfold Con
  k_fill
  intro dp un gd cn cs a ccd cl outer A₀ base h₀ L m news s Q E B F X N T hk hpre hd hu hret
  refine wpAny_call ?_
  k_dflt ktr_enter
  k_steps
  refine hret _ _ _ _ (by assumption) (by assumption) ?_
  exact ⟨rfl, _, by rw [Int.one_mul]⟩

local macro_rules | `(tactic| walk_at "call ref") => `(tactic| (k_here; k_dflt (refine' con_use (con_mask ?h0 ?h8) ?B ?F ?X ?N ?T ?K trivial ?hd ?hu ?_; (case h0 => omega); (case h8 => omega); (case B => k_asm); (case F => k_asm); (case X => k_asm); (case N => k_asm); (case T => k_asm); (case K => first | exact rfl | assumption); (case hd => ktr_room); (case hu => ktr_units); k_whole); intro r' news' h' tk' F' N' hpost; (obtain ⟨hn', t', hr'⟩ := hpost); subst hn'; subst hr'; (try k_fold)))

set_option maxRecDepth 100000 in
set_option maxHeartbeats 8000000 in
theorem con_allx {w : World} {p : Program} {loose : List Str} {mean : ExcName → Option Value} {mg mb : Str → Option Value} {n : Int} {t : Tok} (h0 : 0 ≤ n) (h8 : n ≤ 8) :
    Con w p loose mean mg mb 35 2 16 [.int n t] (fun _ => True) (fun news r news' => ∃ b t' t'', r = .ref b ∧ news' = (b, tupO (.int n t) (.int ((2:Int)^n.toNat - 1) t') (.int ((2:Int)^n.toNat - 1) t'')) :: news ∧ ∀ q ∈ news, q.1 < b) := by
  unfold Con
  k_fill
  intro dp un gd cn cs a ccd cl outer A₀ base h₀ L m news s Q E B F X N T hk hpre hd hu hret
  refine wpAny_call ?_
  k_dflt ktr_enter
  k_steps
  refine hret _ _ _ _ (by assumption) (by assumption) ?_
  exact ⟨_, _, _, rfl, rfl, by assumption⟩


set_option maxRecDepth 100000 in
set_option maxHeartbeats 8000000 in
theorem con_allz {w : World} {p : Program} {loose : List Str} {mean : ExcName → Option Value} {mg mb : Str → Option Value} {n : Int} {t : Tok} (h0 : 0 ≤ n) (h8 : n ≤ 8) :
    Con w p loose mean mg mb 42 2 16 [.int n t] (fun _ => True) (fun news r news' => ∃ b t' t'', r = .ref b ∧ news' = (b, tupO (.int n t) (.int 0 t') (.int ((2:Int)^n.toNat - 1) t'')) :: news ∧ ∀ q ∈ news, q.1 < b) := by
  unfold Con
  k_fill
  intro dp un gd cn cs a ccd cl outer A₀ base h₀ L m news s Q E B F X N T hk hpre hd hu hret
  refine wpAny_call ?_
  k_dflt ktr_enter
  k_steps
  refine hret _ _ _ _ (by assumption) (by assumption) ?_
  exact ⟨_, _, _, rfl, rfl, by assumption⟩

set_option maxRecDepth 100000 in
set_option maxHeartbeats 8000000 in
theorem con_code {w : World} {p : Program} {loose : List Str} {mean : ExcName → Option Value} {mg mb : Str → Option Value} {va : Addr} {n x y i : Int} {t1 t2 t3 ti : Tok} (hx : 0 ≤ x) (hx' : x < 16) (hy : 0 ≤ y) (hy' : y < 16) (hi : 0 ≤ i) (hi' : i < 4) :
    Con w p loose mean mg mb 49 1 8 [.ref va, .int i ti] (fun news => (va, tupO (.int n t1) (.int x t2) (.int y t3)) ∈ news) (fun news r news' => news = news' ∧ ∃ t', r = .int (Builtin.bitAnd (x.fdiv (2 ^ i.toNat)) 1 + 2 * Builtin.bitAnd (y.fdiv (2 ^ i.toNat)) 1) t') := by
  unfold Con
  k_fill
  intro dp un gd cn cs a ccd cl outer A₀ base h₀ L m news s Q E B F X N T hk hpre hd hu hret
  refine wpAny_call ?_
  k_dflt ktr_enter
  k_steps
  refine hret _ _ _ _ (by assumption) (by assumption) ?_
  exact ⟨rfl, _, rfl⟩
end
section
local macro_rules | `(tactic| k_room) => `(tactic| ktr_room)
local macro_rules | `(tactic| units_room) => `(tactic| ktr_units)
local macro_rules | `(tactic| k_mem) => `(tactic| (refine' List.mem_cons_of_mem _ ?_; k_mem))
local macro_rules | `(tactic| k_mem) => `(tactic| exact List.Mem.head _)
local macro_rules | `(tactic| k_mem) => `(tactic| assumption)
local macro_rules | `(tactic| k_get) => `(tactic| assumption)
local macro_rules | `(tactic| walk_at "subscriptTail") => `(tactic| (k_here; (with_reducible show wpAny _ _ (subscriptTail _ _ (Value.ref _) (Value.int _ _)) _ _ _); k_dflt (refine' item_led ?N ?hm ?h0 ?h1 ?hx ?_; (case N => k_asm); (case hm => k_mem); (case h0 => omega); (case h1 => omega); (case hx => first | assumption | (simp; done) | (simp; rfl)); k_whole)))
local macro_rules | `(tactic| walk_at "binaryOp LShift int int") => `(tactic| (k_dflt (refine' lshift_int_small ?h0 ?h1 ?h2 ?_; (case h0 => omega); (case h1 => omega); (case h2 => first | omega | exact na_and (by omega) (by omega) | exact na_fdiv (by omega) (by omega) | exact na_mask (by omega) (by omega) | exact na_andmask (by omega) (by omega)); k_whole)))
section
local macro_rules | `(tactic| walk_at "call ref") => `(tactic| (k_here; k_dflt (refine' con_use (con_mask ?h0 ?h8) ?B ?F ?X ?N ?T ?K ?hp ?hd ?hu ?_; (case B => k_asm); (case F => k_asm); (case X => k_asm); (case N => k_asm); (case T => k_asm); (case K => first | exact rfl | assumption); (case hd => ktr_room); (case hu => ktr_units); (case hp => exact trivial); (case h0 => omega); (case h8 => omega); k_whole); intro r' news' h' tk' F' N' hpost; (obtain ⟨hn', t', hr'⟩ := hpost); subst hn'; subst hr'; (try k_fold)))

set_option maxRecDepth 100000 in
set_option maxHeartbeats 8000000 in
theorem conF_put {w : World} {p : Program} {loose : List Str} {mean : ExcName → Option Value} {mg mb : Str → Option Value} {va pa : Addr} {n x y lo pn px py : Int} {t1 t2 t3 t4 t5 t6 t7 : Tok} (hn : 1 ≤ n) (hn' : n ≤ 4) (hx : 0 ≤ x) (hx' : x < 16) (hy : 0 ≤ y) (hy' : y < 16) (hlo : -1 ≤ lo) (hlo' : lo ≤ 4) (hpn : 1 ≤ pn) (hpn' : pn ≤ 3) (hpx : 0 ≤ px) (hpx' : px < 8) (hpy : 0 ≤ py) (hpy' : py < 8) :
    ConF w p loose mean mg mb 70 3 24 [.ref va, .int lo t7, .ref pa] [(va, tupO (.int n t1) (.int x t2) (.int y t3)), (pa, tupO (.int pn t4) (.int px t5) (.int py t6))] (fun r P' => ∃ tl, P' = tl ++ [(va, tupO (.int n t1) (.int x t2) (.int y t3)), (pa, tupO (.int pn t4) (.int px t5) (.int py t6))] ∧ ∃ b u2 u3, r = .ref b ∧ (b, tupO (.int n t1) (.int (planeV n lo pn x px) u2) (.int (planeV n lo pn y py) u3)) ∈ tl ++ [(va, tupO (.int n t1) (.int x t2) (.int y t3)), (pa, tupO (.int pn t4) (.int px t5) (.int py t6))]) := by
  unfold ConF
  k_fill
  intro dp un gd cn cs a ccd cl outer A₀ base h₀ L m s Q E B F X N T hk hd hu hret
  refine wpAny_call ?_
  k_dflt (refine' code_defF ?k1 ?k2 ?k3 ?k4 ?k5 ?kA ?kF ?kK ?k6 ?k7 ?k8 ?k9 ?kB ?_ ?c2 ?c3 ?c4 ?c5; (case kA => exact rfl); (case kF => exact rfl); (case kK => assumption); (case k1 => k_asm); (case k2 => k_asm); (case k3 => k_asm); (case k4 => k_asm); (case k5 => k_asm); (case k6 => k_is); (case k7 => k_is); (case k8 => ktr_room); (case k9 => exact BindsTo.of_eq rfl); (case c5 => decide); (case kB => exact locs rfl); (case c2 => exact rfl); (case c3 => exact rfl); (case c4 => exact rfl); k_whole)
  intro g1 L1 h1 FG1 F1 N1 B1 X1 T1 hkeep
  (try dsimp only)
  (try k_fold)
  k_steps
  · rename_i q _ _ _ _
    have e1 : planeV n lo pn x px = x := if_pos q
    have e2 : planeV n lo pn y py = y := if_pos q
    refine hret _ _ _ _ (by assumption) (by assumption) (fun b o e n => Fr.keep (h₀ := g1) (by assumption) b o (hkeep b o e n)) ?_
    rw [e1, e2]
    exact ⟨[], rfl, _, _, _, rfl, .head _⟩
  · rename (¬ _ ≤ _) => q
    have e1 : planeV n lo pn x px = _ := if_neg q
    have e2 : planeV n lo pn y py = _ := if_neg q
    refine hret _ _ _ _ (by assumption) (by assumption) (fun b o e n => Fr.keep (h₀ := g1) (by assumption) b o (hkeep b o e n)) ?_
    rw [e1, e2]
    exact ⟨[(_, _)], rfl, _, _, _, rfl, .head _⟩
end
section

set_option maxRecDepth 100000 in
set_option maxHeartbeats 8000000 in
theorem con_isnet_wire {w : World} {p : Program} {loose : List Str} {mean : ExcName → Option Value} {mg mb : Str → Option Value} {sg sd : Addr} {es : List DictEntry} {ne : Nat} {t : Tok} (hk1 : getL (Str.ofString "kind") es = some (some (.str (Str.ofString "wire") t))) :
    Con w p loose mean mg mb 140 3 24 [.ref sg] (fun news => (sg, instObj 171 sd) ∈ news ∧ (sd, dictOf es ne) ∈ news) (fun news r news' => r = .bool true ∧ ∃ tl, news' = tl ++ news) := by
  unfold Con
  k_fill
  intro dp un gd cn cs a ccd cl outer A₀ base h₀ L m news s Q E B F X N T hk hpre hd hu hret
  obtain ⟨hp1, hp2⟩ := hpre
  refine wpAny_call ?_
  k_dflt ktr_enter
  k_steps
  refine hret _ _ _ _ (by assumption) (by assumption) ?_
  exact ⟨congrArg Value.bool (by decide +kernel), [_], rfl⟩

set_option maxRecDepth 100000 in
set_option maxHeartbeats 8000000 in
theorem con_isnet_reg {w : World} {p : Program} {loose : List Str} {mean : ExcName → Option Value} {mg mb : Str → Option Value} {sg sd : Addr} {es : List DictEntry} {ne : Nat} {t : Tok} (hk1 : getL (Str.ofString "kind") es = some (some (.str (Str.ofString "reg") t))) :
    Con w p loose mean mg mb 140 3 24 [.ref sg] (fun news => (sg, instObj 171 sd) ∈ news ∧ (sd, dictOf es ne) ∈ news) (fun news r news' => r = .bool false ∧ ∃ tl, news' = tl ++ news) := by
  unfold Con
  k_fill
  intro dp un gd cn cs a ccd cl outer A₀ base h₀ L m news s Q E B F X N T hk hpre hd hu hret
  obtain ⟨hp1, hp2⟩ := hpre
  refine wpAny_call ?_
  k_dflt ktr_enter
  k_steps
  refine hret _ _ _ _ (by assumption) (by assumption) ?_
  exact ⟨congrArg Value.bool (by decide +kernel), [_], rfl⟩

set_option maxRecDepth 100000 in
set_option maxHeartbeats 8000000 in
theorem con_words_i {w : World} {p : Program} {loose : List Str} {mean : ExcName → Option Value} {mg mb : Str → Option Value} {sg sd : Addr} {es : List DictEntry} {ne : Nat} {fi la : Int} {t t2 : Tok} (hk1 : getL (Str.ofString "first") es = some (some (.int fi t))) (hk2 : getL (Str.ofString "last") es = some (some (.int la t2))) (h1 : 0 ≤ fi) (h2 : fi ≤ 4) (h3 : 0 ≤ la) (h4 : la ≤ 4) :
    Con w p loose mean mg mb 154 3 24 [.ref sg] (fun news => (sg, instObj 171 sd) ∈ news ∧ (sd, dictOf es ne) ∈ news) (fun news r news' => news = news' ∧ ∃ t', r = .int ((if la - fi < 0 then -(la - fi) else la - fi) + 1) t') := by
  unfold Con
  k_fill
  intro dp un gd cn cs a ccd cl outer A₀ base h₀ L m news s Q E B F X N T hk hpre hd hu hret
  obtain ⟨hp1, hp2⟩ := hpre
  refine wpAny_call ?_
  k_dflt ktr_enter
  k_steps
  refine hret _ _ _ _ (by assumption) (by assumption) ?_
  exact ⟨rfl, _, rfl⟩

set_option maxRecDepth 100000 in
set_option maxHeartbeats 8000000 in
theorem con_words_n {w : World} {p : Program} {loose : List Str} {mean : ExcName → Option Value} {mg mb : Str → Option Value} {sg sd : Addr} {es : List DictEntry} {ne : Nat} (hk1 : getL (Str.ofString "first") es = some (some .none)) :
    Con w p loose mean mg mb 154 3 24 [.ref sg] (fun news => (sg, instObj 171 sd) ∈ news ∧ (sd, dictOf es ne) ∈ news) (fun news r news' => news = news' ∧ ∃ t', r = .int 1 t') := by
  unfold Con
  k_fill
  intro dp un gd cn cs a ccd cl outer A₀ base h₀ L m news s Q E B F X N T hk hpre hd hu hret
  obtain ⟨hp1, hp2⟩ := hpre
  refine wpAny_call ?_
  k_dflt ktr_enter
  k_steps
  refine hret _ _ _ _ (by assumption) (by assumption) ?_
  exact ⟨rfl, _, rfl⟩

set_option maxRecDepth 100000 in
set_option maxHeartbeats 8000000 in
theorem con_ismem_i {w : World} {p : Program} {loose : List Str} {mean : ExcName → Option Value} {mg mb : Str → Option Value} {sg sd : Addr} {es : List DictEntry} {ne : Nat} {fi : Int} {t : Tok} (hk1 : getL (Str.ofString "first") es = some (some (.int fi t))) :
    Con w p loose mean mg mb 147 3 24 [.ref sg] (fun news => (sg, instObj 171 sd) ∈ news ∧ (sd, dictOf es ne) ∈ news) (fun news r news' => news = news' ∧ r = .bool true) := by
  unfold Con
  k_fill
  intro dp un gd cn cs a ccd cl outer A₀ base h₀ L m news s Q E B F X N T hk hpre hd hu hret
  obtain ⟨hp1, hp2⟩ := hpre
  refine wpAny_call ?_
  k_dflt ktr_enter
  k_steps
  refine hret _ _ _ _ (by assumption) (by assumption) ?_
  exact ⟨rfl, rfl⟩

set_option maxRecDepth 100000 in
set_option maxHeartbeats 8000000 in
theorem con_ismem_n {w : World} {p : Program} {loose : List Str} {mean : ExcName → Option Value} {mg mb : Str → Option Value} {sg sd : Addr} {es : List DictEntry} {ne : Nat} (hk1 : getL (Str.ofString "first") es = some (some .none)) :
    Con w p loose mean mg mb 147 3 24 [.ref sg] (fun news => (sg, instObj 171 sd) ∈ news ∧ (sd, dictOf es ne) ∈ news) (fun news r news' => news = news' ∧ r = .bool false) := by
  unfold Con
  k_fill
  intro dp un gd cn cs a ccd cl outer A₀ base h₀ L m news s Q E B F X N T hk hpre hd hu hret
  obtain ⟨hp1, hp2⟩ := hpre
  refine wpAny_call ?_
  k_dflt ktr_enter
  k_steps
  refine hret _ _ _ _ (by assumption) (by assumption) ?_
  exact ⟨rfl, rfl⟩
end
section

theorem tk_mod {a m : Int} (hm : 1 ≤ m) : 0 ≤ a.fmod m ∧ a.fmod m < m := by
  have h := fdiv_fmod_facts a m
  rw [Int.fmod_eq_emod_of_nonneg _ (by omega)]
  exact ⟨Int.emod_nonneg _ (by omega), Int.emod_lt_of_pos _ (by omega)⟩
theorem tk_div {a m : Int} (hm : 1 ≤ m) (ha : 0 ≤ a) : 0 ≤ a.fdiv m := by
  rw [Int.fdiv_eq_ediv_of_nonneg _ (by omega)]
  exact Int.ediv_nonneg ha (by omega)

theorem pop0_led {prog : Program} {w : World} {A : Around} {E : Value → Shared → Prop} {s : Shared} {base : Heap} {L D : Addr} {m : Str → Option Value} {news news' : Led} {n : Nat} {u : Tok} {v : Value} {vs : List Value} {Q : Value → Shared → Prop}
    (F : Fr base L s.heap m) (N : News base L s.heap news) (U : Upd D (listOf (v :: vs).toArray n) (listOf vs.toArray (n + 1)) news news') (hz : vs.length ≤ 64)
    (h : ∀ h', Fr base L h' m → News base L h' news' → Q v { s with heap := h' }) : wpAny (model prog w) A (call (.builtin "list.pop") [.ref D, .int 0 u]) Q E s := by
  refine kl_popAt (k := 0) (p := []) (q := vs) (y := v) F N (by decide) ?_ rfl U ?_ h
  · simp [seqIndex?]
  · rw [sizeLine_eq]; simp; omega
local macro_rules | `(tactic| walk_at "call builtin:list.pop") => `(tactic| (k_here; k_dflt (refine' pop0_led ?F ?N ?U ?z ?_; (case F => k_asm); (case N => k_asm); (case U => k_upd); (case z => omega)); (intro h' F' N'; (try dsimp only [List.nil_append, List.cons_append] at N'))))

set_option maxRecDepth 100000 in
set_option maxHeartbeats 8000000 in
theorem conF_take0 {w : World} {p : Program} {loose : List Str} {mean : ExcName → Option Value} {mg mb : Str → Option Value} {src lst : Addr} {cur seed most : Int} {t1 t2 t4 : Tok} {n1 n2 : Nat} (hc : 0 ≤ cur) (hs : 0 ≤ seed) (hs2 : seed < 2147483563) (hm : 1 ≤ most) (hm2 : most ≤ 64) (hne : @Ne Nat src lst) (hne2 : @Ne Nat lst src) :
    ConF w p loose mean mg mb 245 3 160 [.ref src, .int most t4] [(src, listOf #[.ref lst, .int cur t1, .int seed t2] n1), (lst, listOf #[] n2)] (fun r P' => ∃ found cur' seed' u1 u2 u3 vs' ns' k1 k2 tl, r = .int found u3 ∧ 0 ≤ found ∧ found < most ∧ 0 ≤ cur' ∧ 0 ≤ seed' ∧ seed' < 2147483563 ∧ IntsAre vs' ns' ∧ vs'.length ≤ 64 ∧ P' = tl ++ [(src, listOf #[.ref lst, .int cur' u1, .int seed' u2] k1), (lst, listOf vs'.toArray k2)]) := by
  unfold ConF
  k_fill
  intro dp un gd cn cs a ccd cl outer A₀ base h₀ L m s Q E B F X N T hk hd hu hret
  refine wpAny_call ?_
  k_dflt (refine' code_defF ?k1 ?k2 ?k3 ?k4 ?k5 ?kA ?kF ?kK ?k6 ?k7 ?k8 ?k9 ?kB ?_ ?c2 ?c3 ?c4 ?c5; (case kA => exact rfl); (case kF => exact rfl); (case kK => assumption); (case k1 => k_asm); (case k2 => k_asm); (case k3 => k_asm); (case k4 => k_asm); (case k5 => k_asm); (case k6 => k_is); (case k7 => k_is); (case k8 => ktr_room); (case k9 => exact BindsTo.of_eq rfl); (case c5 => decide); (case kB => exact locs rfl); (case c2 => exact rfl); (case c3 => exact rfl); (case c4 => exact rfl); k_whole)
  intro g1 L1 h1 FG1 F1 N1 B1 X1 T1 hkeep
  (try dsimp only)
  (try k_fold)
  k_steps
  all_goals (refine hret _ _ _ _ (by assumption) (by assumption) (fun b o e n => Fr.keep (h₀ := g1) (by assumption) b o (hkeep b o e n)) ?_)
  all_goals first
    | refine ⟨_, _, _, _, _, _, [], [], _, _, [], rfl, ?_, ?_, ?_, ?_, ?_, .nil, Nat.zero_le _, rfl⟩
    | refine ⟨_, _, _, _, _, _, [], [], _, _, [_], rfl, ?_, ?_, ?_, ?_, ?_, .nil, Nat.zero_le _, rfl⟩
    | refine ⟨_, _, _, _, _, _, [], [], _, _, [_], rfl, ?_, ?_, ?_, ?_, ?_, .nil, Nat.zero_le _, rfl⟩
  all_goals (first | assumption | omega | exact (tk_mod (by omega)).1 | exact (tk_mod (by omega)).2 | exact tk_div (by omega) (by first | omega | exact (tk_mod (by omega)).1 | exact tk_div (by omega) (by first | omega | exact (tk_mod (by omega)).1)))

set_option maxRecDepth 100000 in
set_option maxHeartbeats 8000000 in
theorem conF_take1 {w : World} {p : Program} {loose : List Str} {mean : ExcName → Option Value} {mg mb : Str → Option Value} {src lst : Addr} {cur seed most v : Int} {t1 t2 t4 tv : Tok} {vs : List Value} {ns : List Int} {n1 n2 : Nat} (hv : IntsAre vs ns) (hlen : vs.length ≤ 63) (hc : 0 ≤ cur) (hs : 0 ≤ seed) (hs2 : seed < 2147483563) (hm : 1 ≤ most) (hm2 : most ≤ 64) (hne : @Ne Nat src lst) (hne2 : @Ne Nat lst src) :
    ConF w p loose mean mg mb 245 3 160 [.ref src, .int most t4] [(src, listOf #[.ref lst, .int cur t1, .int seed t2] n1), (lst, listOf (.int v tv :: vs).toArray n2)] (fun r P' => ∃ found cur' seed' u1 u2 u3 vs' ns' k1 k2 tl, r = .int found u3 ∧ 0 ≤ found ∧ found < most ∧ 0 ≤ cur' ∧ 0 ≤ seed' ∧ seed' < 2147483563 ∧ IntsAre vs' ns' ∧ vs'.length ≤ 64 ∧ P' = tl ++ [(src, listOf #[.ref lst, .int cur' u1, .int seed' u2] k1), (lst, listOf vs'.toArray k2)]) := by
  unfold ConF
  k_fill
  intro dp un gd cn cs a ccd cl outer A₀ base h₀ L m s Q E B F X N T hk hd hu hret
  have hv2 := IntsAre.cons v tv hv
  refine wpAny_call ?_
  k_dflt (refine' code_defF ?k1 ?k2 ?k3 ?k4 ?k5 ?kA ?kF ?kK ?k6 ?k7 ?k8 ?k9 ?kB ?_ ?c2 ?c3 ?c4 ?c5; (case kA => exact rfl); (case kF => exact rfl); (case kK => assumption); (case k1 => k_asm); (case k2 => k_asm); (case k3 => k_asm); (case k4 => k_asm); (case k5 => k_asm); (case k6 => k_is); (case k7 => k_is); (case k8 => ktr_room); (case k9 => exact BindsTo.of_eq rfl); (case c5 => decide); (case kB => exact locs rfl); (case c2 => exact rfl); (case c3 => exact rfl); (case c4 => exact rfl); k_whole)
  intro g1 L1 h1 FG1 F1 N1 B1 X1 T1 hkeep
  (try dsimp only)
  (try k_fold)
  k_steps
  all_goals (refine hret _ _ _ _ (by assumption) (by assumption) (fun b o e n => Fr.keep (h₀ := g1) (by assumption) b o (hkeep b o e n)) ?_)
  all_goals first
    | refine ⟨_, _, _, _, _, _, (.int v tv :: vs), _, _, _, [], rfl, ?_, ?_, ?_, ?_, ?_, hv2, (by simp; omega), rfl⟩
    | refine ⟨_, _, _, _, _, _, (.int v tv :: vs), _, _, _, [_], rfl, ?_, ?_, ?_, ?_, ?_, hv2, (by simp; omega), rfl⟩
    | refine ⟨_, _, _, _, _, _, vs, ns, _, _, [_], rfl, ?_, ?_, ?_, ?_, ?_, hv, (by omega), rfl⟩
  all_goals (first | assumption | omega | exact (tk_mod (by omega)).1 | exact (tk_mod (by omega)).2 | exact tk_div (by omega) (by first | omega | exact (tk_mod (by omega)).1 | exact tk_div (by omega) (by first | omega | exact (tk_mod (by omega)).1)))

theorem conF_take {w : World} {p : Program} {loose : List Str} {mean : ExcName → Option Value} {mg mb : Str → Option Value} {src lst : Addr} {cur seed most : Int} {t1 t2 t4 : Tok} {vs : List Value} {ns : List Int} {n1 n2 : Nat} (hv : IntsAre vs ns) (hlen : vs.length ≤ 64) (hc : 0 ≤ cur) (hs : 0 ≤ seed) (hs2 : seed < 2147483563) (hm : 1 ≤ most) (hm2 : most ≤ 64) (hne : @Ne Nat src lst) (hne2 : @Ne Nat lst src) :
    ConF w p loose mean mg mb 245 3 160 [.ref src, .int most t4] [(src, listOf #[.ref lst, .int cur t1, .int seed t2] n1), (lst, listOf vs.toArray n2)] (fun r P' => ∃ found cur' seed' u1 u2 u3 vs' ns' k1 k2 tl, r = .int found u3 ∧ 0 ≤ found ∧ found < most ∧ 0 ≤ cur' ∧ 0 ≤ seed' ∧ seed' < 2147483563 ∧ IntsAre vs' ns' ∧ vs'.length ≤ 64 ∧ P' = tl ++ [(src, listOf #[.ref lst, .int cur' u1, .int seed' u2] k1), (lst, listOf vs'.toArray k2)]) := by
  cases hv with
  | nil => exact conF_take0 hc hs hs2 hm hm2 hne hne2
  | cons v tv hv => exact conF_take1 hv (by simp at hlen; omega) hc hs hs2 hm hm2 hne hne2
end
section
local macro_rules | `(tactic| walk_at "getMethod ref") => `(tactic| (k_here; (with_reducible show wpAny _ _ (getMethod (Value.ref _) (Str.ofString "get") _) _ _ _); k_dflt (refine' kdg_method (knd := PySem.intKind _ _) ?N ?m ?d ?_; (case N => k_asm); (case m => k_mem); (case d => assumption); k_whole)))
local macro_rules | `(tactic| walk_at "call builtin:dict.get") => `(tactic| (k_here; k_dflt (refine' kdg_get1 (knd := PySem.intKind _ _) ?N ?m ?d ?lo (intKind_is _ _ _ _) _ ?hl ?_; (case N => k_asm); (case m => k_mem); (case d => assumption); (case lo => assumption); (case hl => assumption); k_whole); (try dsimp only [Option.getD])))

def kdS (net : Bool) : Str := if net then Str.ofString "wire" else Str.ofString "reg"
def blX (net : Bool) (wd : Int) : Int := if net then 0 else 2 ^ wd.toNat - 1
theorem con_isnet {w : World} {p : Program} {loose : List Str} {mean : ExcName → Option Value} {mg mb : Str → Option Value} {sg sd : Addr} {es : List DictEntry} {ne : Nat} {net : Bool} {t : Tok} (hk1 : getL (Str.ofString "kind") es = some (some (.str (kdS net) t))) :
    Con w p loose mean mg mb 140 3 24 [.ref sg] (fun news => (sg, instObj 171 sd) ∈ news ∧ (sd, dictOf es ne) ∈ news) (fun news r news' => r = .bool net ∧ ∃ tl, news' = tl ++ news) := by
  cases net
  · exact con_isnet_reg hk1
  · exact con_isnet_wire hk1
local macro_rules | `(tactic| walk_at "call ref") => `(tactic| (k_here; k_dflt (refine' con_use (con_isnet ?g1) ?B ?F ?X ?N ?T ?K ?hp ?hd ?hu ?_; (case B => k_asm); (case F => k_asm); (case X => k_asm); (case N => k_asm); (case T => k_asm); (case K => first | exact rfl | assumption); (case hd => ktr_room); (case hu => ktr_units); (case hp => exact ⟨by k_mem, by k_mem⟩); (case g1 => assumption); k_whole); intro r' news' h' tk' F' N' hpost; (obtain ⟨hr', tl', hn'⟩ := hpost); subst hn'; subst hr'; (try k_fold)))
local macro_rules | `(tactic| walk_at "call ref") => `(tactic| (k_here; k_dflt (refine' con_use (con_allz ?h0 ?h8) ?B ?F ?X ?N ?T ?K ?hp ?hd ?hu ?_; (case B => k_asm); (case F => k_asm); (case X => k_asm); (case N => k_asm); (case T => k_asm); (case K => first | exact rfl | assumption); (case hd => ktr_room); (case hu => ktr_units); (case hp => exact trivial); (case h0 => omega); (case h8 => omega); k_whole); intro r' news' h' tk' F' N' hpost; (obtain ⟨b', t', t'', hr', hn', hlt'⟩ := hpost); subst hn'; subst hr'; (try k_fold)))
local macro_rules | `(tactic| walk_at "call ref") => `(tactic| (k_here; k_dflt (refine' con_use (con_allx ?h0 ?h8) ?B ?F ?X ?N ?T ?K ?hp ?hd ?hu ?_; (case B => k_asm); (case F => k_asm); (case X => k_asm); (case N => k_asm); (case T => k_asm); (case K => first | exact rfl | assumption); (case hd => ktr_room); (case hu => ktr_units); (case hp => exact trivial); (case h0 => omega); (case h8 => omega); k_whole); intro r' news' h' tk' F' N' hpost; (obtain ⟨b', t', t'', hr', hn', hlt'⟩ := hpost); subst hn'; subst hr'; (try k_fold)))

set_option maxRecDepth 100000 in
set_option maxHeartbeats 8000000 in
theorem con_get_s {w : World} {p : Program} {loose : List Str} {mean : ExcName → Option Value} {mg mb : Str → Option Value} {st sdx vd md sl : Addr} {es : List DictEntry} {ne nsl : Nat} {sigs : List Value} (hs1 : getL (Str.ofString "signals") es = some (some (.ref sl))) (hs2 : getL (Str.ofString "values") es = some (some (.ref vd))) (hs3 : getL (Str.ofString "memories") es = some (some (.ref md))){sg sd : Addr} {es2 : List DictEntry} {ne2 : Nat} {key : Int} {tk0 : Tok} (hk0 : 0 ≤ key) (hk3 : key < 4) (hsig : sigs.toArray[key.toNat]? = some (.ref sg)){ov : Obj} {kvs : List (Int × Value)} (hdv : ov.IsDictOf (PySem.intKind PySem.Challenge.rw_pq0454_01.row.prog w) kvs) (lov : (vd == sysModules) = false){ta : Addr} (hl : valueAt kvs key = some (.ref ta)) {wd x y : Int} {u1 u2 u3 : Tok} :
    Con w p loose mean mg mb 91 6 200 [.ref st, .int key tk0] (fun news => ((st, instObj 108 sdx) ∈ news ∧ (sdx, dictOf es ne) ∈ news ∧ (vd, ov) ∈ news ∧ (sl, listOf sigs.toArray nsl) ∈ news ∧ (sg, instObj 171 sd) ∈ news ∧ (sd, dictOf es2 ne2) ∈ news) ∧ (ta, tupO (.int wd u1) (.int x u2) (.int y u3)) ∈ news) (fun news r news' => ∃ tl b u1 u2 u3, news' = tl ++ news ∧ r = .ref b ∧ (b, tupO (.int wd u1) (.int x u2) (.int y u3)) ∈ news') := by
  unfold Con
  k_fill
  intro dp un gd cn cs a ccd cl outer A₀ base h₀ L m news s Q E B F X N T hk hpre hd hu hret
  obtain ⟨⟨hp1, hp2, hp3, hp4, hp5, hp6⟩, hta⟩ := hpre
  refine wpAny_call ?_
  k_dflt ktr_enter
  k_steps
  refine hret _ _ _ _ (by assumption) (by assumption) ?_
  exact ⟨[], _, _, _, _, rfl, rfl, hta⟩

set_option maxRecDepth 100000 in
set_option maxHeartbeats 8000000 in
theorem con_get_x {w : World} {p : Program} {loose : List Str} {mean : ExcName → Option Value} {mg mb : Str → Option Value} {st sdx vd md sl : Addr} {es : List DictEntry} {ne nsl : Nat} {sigs : List Value} (hs1 : getL (Str.ofString "signals") es = some (some (.ref sl))) (hs2 : getL (Str.ofString "values") es = some (some (.ref vd))) (hs3 : getL (Str.ofString "memories") es = some (some (.ref md))){sg sd : Addr} {es2 : List DictEntry} {ne2 : Nat} {key : Int} {tk0 : Tok} (hk0 : 0 ≤ key) (hk3 : key < 4) (hsig : sigs.toArray[key.toNat]? = some (.ref sg)){ov : Obj} {kvs : List (Int × Value)} (hdv : ov.IsDictOf (PySem.intKind PySem.Challenge.rw_pq0454_01.row.prog w) kvs) (lov : (vd == sysModules) = false)(hl : valueAt kvs key = none)(hnm : getL (Str.ofString "is_net") es2 = some none) {net : Bool} {t5 : Tok} (hkd : getL (Str.ofString "kind") es2 = some (some (.str (kdS net) t5))) {wd : Int} {t6 : Tok} (hwd : getL (Str.ofString "width") es2 = some (some (.int wd t6))) (hw1 : 1 ≤ wd) (hw4 : wd ≤ 4) :
    Con w p loose mean mg mb 91 6 200 [.ref st, .int key tk0] (fun news => (st, instObj 108 sdx) ∈ news ∧ (sdx, dictOf es ne) ∈ news ∧ (vd, ov) ∈ news ∧ (sl, listOf sigs.toArray nsl) ∈ news ∧ (sg, instObj 171 sd) ∈ news ∧ (sd, dictOf es2 ne2) ∈ news) (fun news r news' => ∃ tl b u1 u2 u3, news' = tl ++ news ∧ r = .ref b ∧ (b, tupO (.int wd u1) (.int (blX net wd) u2) (.int (2 ^ wd.toNat - 1) u3)) ∈ news') := by
  unfold Con
  k_fill
  intro dp un gd cn cs a ccd cl outer A₀ base h₀ L m news s Q E B F X N T hk hpre hd hu hret
  obtain ⟨hp1, hp2, hp3, hp4, hp5, hp6⟩ := hpre
  refine wpAny_call ?_
  k_dflt ktr_enter
  k_steps
  all_goals (refine hret _ _ _ _ (by assumption) (by assumption) ?_)
  all_goals first
    | (have e : blX net wd = 0 := by simp_all [blX]
       rw [e]; exact ⟨_ :: _, _, _, _, _, rfl, rfl, .head _⟩)
    | (have e : blX net wd = 2 ^ wd.toNat - 1 := by simp_all [blX]
       rw [e]; exact ⟨_ :: _, _, _, _, _, rfl, rfl, .head _⟩)
end
section
local macro_rules | `(tactic| walk_at "no such place") => `(tactic| fail "none")
local macro_rules | `(tactic| walk_at "getMethod ref") => `(tactic| (k_here; (with_reducible show wpAny _ _ (getMethod (Value.ref _) (Str.ofString "get") _) _ _ _); k_dflt (refine' kdg_method (knd := PySem.intKind _ _) ?N ?m ?d ?_; (case N => k_asm); (case m => k_mem); (case d => assumption); k_whole)))
local macro_rules | `(tactic| walk_at "call builtin:dict.get") => `(tactic| (k_here; k_dflt (refine' kdg_get1 (knd := PySem.intKind _ _) ?N ?m ?d ?lo (intKind_is _ _ _ _) _ ?hl ?_; (case N => k_asm); (case m => k_mem); (case d => assumption); (case lo => assumption); (case hl => assumption); k_whole); (try dsimp only [Option.getD])))
local macro_rules | `(tactic| walk_at "call ref") => `(tactic| (k_here; k_dflt (refine' con_use (con_isnet ?g1) ?B ?F ?X ?N ?T ?K ?hp ?hd ?hu ?_; (case B => k_asm); (case F => k_asm); (case X => k_asm); (case N => k_asm); (case T => k_asm); (case K => first | exact rfl | assumption); (case hd => ktr_room); (case hu => ktr_units); (case hp => exact ⟨by k_mem, by k_mem⟩); (case g1 => assumption); k_whole); intro r' news' h' tk' F' N' hpost; (obtain ⟨hr', tl', hn'⟩ := hpost); subst hn'; subst hr'; (try k_fold)))
local macro_rules | `(tactic| walk_at "call ref") => `(tactic| (k_here; k_dflt (refine' con_use (con_allz ?h0 ?h8) ?B ?F ?X ?N ?T ?K ?hp ?hd ?hu ?_; (case B => k_asm); (case F => k_asm); (case X => k_asm); (case N => k_asm); (case T => k_asm); (case K => first | exact rfl | assumption); (case hd => ktr_room); (case hu => ktr_units); (case hp => exact trivial); (case h0 => omega); (case h8 => omega); k_whole); intro r' news' h' tk' F' N' hpost; (obtain ⟨b', t', t'', hr', hn', hlt'⟩ := hpost); subst hn'; subst hr'; (try k_fold)))
local macro_rules | `(tactic| walk_at "call ref") => `(tactic| (k_here; k_dflt (refine' con_use (con_allx ?h0 ?h8) ?B ?F ?X ?N ?T ?K ?hp ?hd ?hu ?_; (case B => k_asm); (case F => k_asm); (case X => k_asm); (case N => k_asm); (case T => k_asm); (case K => first | exact rfl | assumption); (case hd => ktr_room); (case hu => ktr_units); (case hp => exact trivial); (case h0 => omega); (case h8 => omega); k_whole); intro r' news' h' tk' F' N' hpost; (obtain ⟨b', t', t'', hr', hn', hlt'⟩ := hpost); subst hn'; subst hr'; (try k_fold)))

set_option maxRecDepth 100000 in
set_option maxHeartbeats 8000000 in
theorem con_word_n {w : World} {p : Program} {loose : List Str} {mean : ExcName → Option Value} {mg mb : Str → Option Value} {st sdx vd md sl : Addr} {es : List DictEntry} {ne nsl : Nat} {sigs : List Value} (hs1 : getL (Str.ofString "signals") es = some (some (.ref sl))) (hs2 : getL (Str.ofString "values") es = some (some (.ref vd))) (hs3 : getL (Str.ofString "memories") es = some (some (.ref md))){sg sd : Addr} {es2 : List DictEntry} {ne2 : Nat} {key : Int} {tk0 : Tok} (hk0 : 0 ≤ key) (hk3 : key < 4) (hsig : sigs.toArray[key.toNat]? = some (.ref sg)){om : Obj} {kvm : List (Int × Value)} (hdm : om.IsDictOf (PySem.intKind PySem.Challenge.rw_pq0454_01.row.prog w) kvm) (lom : (md == sysModules) = false) {place : Int} {tkp : Tok}(hlm : valueAt kvm key = none)(hnm : getL (Str.ofString "is_net") es2 = some none) {net : Bool} {t5 : Tok} (hkd : getL (Str.ofString "kind") es2 = some (some (.str (kdS net) t5))) {wd : Int} {t6 : Tok} (hwd : getL (Str.ofString "width") es2 = some (some (.int wd t6))) (hw1 : 1 ≤ wd) (hw4 : wd ≤ 4) :
    Con w p loose mean mg mb 98 6 200 [.ref st, .int key tk0, .int place tkp] (fun news => (st, instObj 108 sdx) ∈ news ∧ (sdx, dictOf es ne) ∈ news ∧ (md, om) ∈ news ∧ (sl, listOf sigs.toArray nsl) ∈ news ∧ (sg, instObj 171 sd) ∈ news ∧ (sd, dictOf es2 ne2) ∈ news) (fun news r news' => ∃ tl b u1 u2 u3, news' = tl ++ news ∧ r = .ref b ∧ (b, tupO (.int wd u1) (.int (blX net wd) u2) (.int (2 ^ wd.toNat - 1) u3)) ∈ news') := by
  unfold Con
  k_fill
  intro dp un gd cn cs a ccd cl outer A₀ base h₀ L m news s Q E B F X N T hk hpre hd hu hret
  obtain ⟨hp1, hp2, hp3, hp4, hp5, hp6⟩ := hpre
  refine wpAny_call ?_
  k_dflt ktr_enter
  k_steps
  all_goals (refine hret _ _ _ _ (by assumption) (by assumption) ?_)
  all_goals first
    | (have e : blX net wd = 0 := by simp_all [blX]
       rw [e]; exact ⟨_ :: _, _, _, _, _, rfl, rfl, .head _⟩)
    | (have e : blX net wd = 2 ^ wd.toNat - 1 := by simp_all [blX]
       rw [e]; exact ⟨_ :: _, _, _, _, _, rfl, rfl, .head _⟩)

set_option maxRecDepth 100000 in
set_option maxHeartbeats 8000000 in
theorem con_word_x {w : World} {p : Program} {loose : List Str} {mean : ExcName → Option Value} {mg mb : Str → Option Value} {st sdx vd md sl : Addr} {es : List DictEntry} {ne nsl : Nat} {sigs : List Value} (hs1 : getL (Str.ofString "signals") es = some (some (.ref sl))) (hs2 : getL (Str.ofString "values") es = some (some (.ref vd))) (hs3 : getL (Str.ofString "memories") es = some (some (.ref md))){sg sd : Addr} {es2 : List DictEntry} {ne2 : Nat} {key : Int} {tk0 : Tok} (hk0 : 0 ≤ key) (hk3 : key < 4) (hsig : sigs.toArray[key.toNat]? = some (.ref sg)){om : Obj} {kvm : List (Int × Value)} (hdm : om.IsDictOf (PySem.intKind PySem.Challenge.rw_pq0454_01.row.prog w) kvm) (lom : (md == sysModules) = false) {place : Int} {tkp : Tok}{wa : Addr} {ow : Obj} {kvw : List (Int × Value)} (hdw : ow.IsDictOf (PySem.intKind PySem.Challenge.rw_pq0454_01.row.prog w) kvw) (low : (wa == sysModules) = false) (hlm : valueAt kvm key = some (.ref wa))(hlw : valueAt kvw place = none)(hnm : getL (Str.ofString "is_net") es2 = some none) {net : Bool} {t5 : Tok} (hkd : getL (Str.ofString "kind") es2 = some (some (.str (kdS net) t5))) {wd : Int} {t6 : Tok} (hwd : getL (Str.ofString "width") es2 = some (some (.int wd t6))) (hw1 : 1 ≤ wd) (hw4 : wd ≤ 4) :
    Con w p loose mean mg mb 98 6 200 [.ref st, .int key tk0, .int place tkp] (fun news => ((st, instObj 108 sdx) ∈ news ∧ (sdx, dictOf es ne) ∈ news ∧ (md, om) ∈ news ∧ (sl, listOf sigs.toArray nsl) ∈ news ∧ (sg, instObj 171 sd) ∈ news ∧ (sd, dictOf es2 ne2) ∈ news) ∧ (wa, ow) ∈ news) (fun news r news' => ∃ tl b u1 u2 u3, news' = tl ++ news ∧ r = .ref b ∧ (b, tupO (.int wd u1) (.int (blX net wd) u2) (.int (2 ^ wd.toNat - 1) u3)) ∈ news') := by
  unfold Con
  k_fill
  intro dp un gd cn cs a ccd cl outer A₀ base h₀ L m news s Q E B F X N T hk hpre hd hu hret
  obtain ⟨⟨hp1, hp2, hp3, hp4, hp5, hp6⟩, hp7⟩ := hpre
  refine wpAny_call ?_
  k_dflt ktr_enter
  k_steps
  all_goals (refine hret _ _ _ _ (by assumption) (by assumption) ?_)
  all_goals first
    | (have e : blX net wd = 0 := by simp_all [blX]
       rw [e]; exact ⟨_ :: _, _, _, _, _, rfl, rfl, .head _⟩)
    | (have e : blX net wd = 2 ^ wd.toNat - 1 := by simp_all [blX]
       rw [e]; exact ⟨_ :: _, _, _, _, _, rfl, rfl, .head _⟩)

set_option maxRecDepth 100000 in
set_option maxHeartbeats 8000000 in
theorem con_word_s {w : World} {p : Program} {loose : List Str} {mean : ExcName → Option Value} {mg mb : Str → Option Value} {st sdx vd md sl : Addr} {es : List DictEntry} {ne nsl : Nat} {sigs : List Value} (hs1 : getL (Str.ofString "signals") es = some (some (.ref sl))) (hs2 : getL (Str.ofString "values") es = some (some (.ref vd))) (hs3 : getL (Str.ofString "memories") es = some (some (.ref md))){sg sd : Addr} {es2 : List DictEntry} {ne2 : Nat} {key : Int} {tk0 : Tok} (hk0 : 0 ≤ key) (hk3 : key < 4) (hsig : sigs.toArray[key.toNat]? = some (.ref sg)){om : Obj} {kvm : List (Int × Value)} (hdm : om.IsDictOf (PySem.intKind PySem.Challenge.rw_pq0454_01.row.prog w) kvm) (lom : (md == sysModules) = false) {place : Int} {tkp : Tok}{wa : Addr} {ow : Obj} {kvw : List (Int × Value)} (hdw : ow.IsDictOf (PySem.intKind PySem.Challenge.rw_pq0454_01.row.prog w) kvw) (low : (wa == sysModules) = false) (hlm : valueAt kvm key = some (.ref wa)){ta : Addr} (hlw : valueAt kvw place = some (.ref ta)) {wd x y : Int} {u1 u2 u3 : Tok} :
    Con w p loose mean mg mb 98 6 200 [.ref st, .int key tk0, .int place tkp] (fun news => ((st, instObj 108 sdx) ∈ news ∧ (sdx, dictOf es ne) ∈ news ∧ (md, om) ∈ news ∧ (sl, listOf sigs.toArray nsl) ∈ news ∧ (sg, instObj 171 sd) ∈ news ∧ (sd, dictOf es2 ne2) ∈ news) ∧ (wa, ow) ∈ news ∧ (ta, tupO (.int wd u1) (.int x u2) (.int y u3)) ∈ news) (fun news r news' => ∃ tl b u1 u2 u3, news' = tl ++ news ∧ r = .ref b ∧ (b, tupO (.int wd u1) (.int x u2) (.int y u3)) ∈ news') := by
  unfold Con
  k_fill
  intro dp un gd cn cs a ccd cl outer A₀ base h₀ L m news s Q E B F X N T hk hpre hd hu hret
  obtain ⟨⟨hp1, hp2, hp3, hp4, hp5, hp6⟩, hp7, hta⟩ := hpre
  refine wpAny_call ?_
  k_dflt ktr_enter
  k_steps
  refine hret _ _ _ _ (by assumption) (by assumption) ?_
  exact ⟨[], _, _, _, _, rfl, rfl, hta⟩
end
section
open PyProof.V PySem.SeqAt
theorem shaped_t3 (n x y : Int) : shaped (.tuple [.int n, .int x, .int y]) = true := by
  simp [shaped, PyData.canLay0, PyData.canLayAll0, PyData.depth, PyData.depthAll]
theorem eq_tup3 {prog : Program} {w : World} {A : Around} {E : Value → Shared → Prop} {s : Shared} {base : Heap} {L a b : Addr} {news : Led} {n x y n' x' y' : Int} {t1 t2 t3 u1 u2 u3 : Tok} {Q : Value → Shared → Prop}
    (N : News base L s.heap news) (ha : (a, tupO (.int n t1) (.int x t2) (.int y t3)) ∈ news) (hb : (b, tupO (.int n' u1) (.int x' u2) (.int y' u3)) ∈ news) (hu : A.units + 64 < cLine)
    (h : Q (.bool (decide (n = n' ∧ x = x' ∧ y = y'))) s) : wpAny (model prog w) A (compareOp .Eq (.ref a) (.ref b)) Q E s := by
  have ra : Reads s.heap (.ref a) (.tuple [.int n, .int x, .int y]) [] := Reads.tuple (N _ ha).1 rfl rfl (readsAll_of_ints (ns := [n, x, y]) (.cons _ _ (.cons _ _ (.cons _ _ .nil))))
  have rb : Reads s.heap (.ref b) (.tuple [.int n', .int x', .int y']) [] := Reads.tuple (N _ hb).1 rfl rfl (readsAll_of_ints (ns := [n', x', y']) (.cons _ _ (.cons _ _ (.cons _ _ .nil))))
  refine eq_dataH_same ra rb (shaped_t3 ..) (shaped_t3 ..) hu (by simp [noMix, noMixAll]) ?_
  have e : PySem.Spec.same (.tuple [.int n, .int x, .int y]) (.tuple [.int n', .int x', .int y']) = decide (n = n' ∧ x = x' ∧ y = y') := by
    rw [Bool.eq_iff_iff]; simp [PySem.Spec.same, PySem.Spec.sameAll]
  rw [e]; exact h

theorem valueAt_stored {K : Type} [DecidableEq K] (kvs : List (K × Value)) (k k' : K) (v : Value) : valueAt (stored kvs k v) k' = if k' = k then some v else valueAt kvs k' := by
  unfold stored
  by_cases h : kvs.any (fun kv => kv.1 = k) = true
  · rw [if_pos h]
    induction kvs with
    | nil => simp at h
    | cons p r ih =>
      by_cases hp : p.1 = k
      · by_cases hk : k' = k
        · subst hk; simp [valueAt, hp]
        · have hk2 : ¬ k = k' := fun e => hk e.symm
          by_cases hr : r.any (fun kv => kv.1 = k) = true
          · have := ih hr
            rw [if_neg hk] at this ⊢
            simpa [valueAt, hp, hk2] using this
          · have hm : r.map (fun kv => if kv.1 = k then (kv.1, v) else kv) = r := by
              rw [List.map_congr_left (g := id), List.map_id]
              intro q hq
              have : ¬ q.1 = k := fun e => hr (List.any_eq_true.mpr ⟨q, hq, by simpa using e⟩)
              simp [this]
            rw [if_neg hk]
            simp only [List.map_cons, hm]
            simp [valueAt, hp, hk2]
      · have hr : r.any (fun kv => kv.1 = k) = true := by simpa [hp] using h
        have := ih hr
        by_cases hk : k' = k
        · rw [if_pos hk] at this ⊢
          subst hk
          simpa [valueAt, hp] using this
        · rw [if_neg hk] at this ⊢
          by_cases hpk : p.1 = k'
          · subst hpk; simp [valueAt, hp]
          · simpa [valueAt, hp, hpk] using this
  · rw [if_neg h]
    by_cases hk : k' = k
    · subst hk
      rw [if_pos rfl]
      have : kvs.find? (fun kv => decide (kv.1 = k')) = none := by
        rw [List.find?_eq_none]
        intro q hq e
        exact h (List.any_eq_true.mpr ⟨q, hq, e⟩)
      simp [valueAt, List.find?_append, this]
    · rw [if_neg hk]
      have hk2 : ¬ k = k' := fun e => hk e.symm
      simp [valueAt, List.find?_append, hk2]

theorem ne_of_dict {prog : Program} {w : World} {base h : Heap} {L d a : Addr} {news : Led} {o o2 : Obj} {kvs : List (Int × Value)} (N : News base L h news) (hd : (d, o) ∈ news) (hk : o.IsDictOf (PySem.intKind prog w) kvs) (ha : (a, o2) ∈ news) (hc : o2.cls ≠ .type "dict") : a ≠ d := by
  intro e
  subst e
  have h1 := (N _ hd).1
  have h2 := (N _ ha).1
  rw [h1] at h2
  obtain ⟨es, ep, hx, _⟩ := hk
  exact hc ((congrArg Obj.cls (Option.some.inj h2)).symm.trans hx.1)
@[irreducible] def drp (d : Addr) (news : Led) : Led := news.filter (fun q => decide (q.1 ≠ d))
theorem mem_drp {d : Addr} {q : Addr × Obj} {news : Led} : q ∈ drp d news ↔ q ∈ news ∧ q.1 ≠ d := by
  unfold drp
  rw [List.mem_filter]
  simp
theorem valueAt_self {kvs : List (Int × Value)} {k : Int} {v : Value} : valueAt (stored kvs k v) k = some v := by rw [valueAt_stored, if_pos rfl]
theorem setitem_led {prog : Program} {w : World} {A : Around} {E : Value → Shared → Prop} {s : Shared} {base : Heap} {L d : Addr} {m : Str → Option Value} {news : Led} {o : Obj} {kvs : List (Int × Value)} {k : Int} {t : Tok} {v : Value} {Q : Unit → Shared → Prop}
    (F : Fr base L s.heap m) (N : News base L s.heap news) (hm : (d, o) ∈ news) (hd : o.IsDictOf (PySem.intKind prog w) kvs) (hsz : kvs.length ≤ 64)
    (h : ∀ h' o', Fr base L h' m → News base L h' ((d, o') :: drp d news) → o'.IsDictOf (PySem.intKind prog w) (stored kvs k v) → (∀ a o2, (a, o2) ∈ news → o2.cls ≠ .type "dict" → a ≠ d) → Q () { s with heap := h', toks := s.toks + 1 }) :
    wpAny (model prog w) A (setItem (.ref d) (.int k t) v) Q E s := by
  have hmm := N _ hm
  refine wpAny_setItem_pairs (hsz := by rw [sizeLine_eq]; omega) (intKind_is _ _ _ _) (Heap.dictOf_iff.mpr ⟨o, hmm.1, hd⟩) fun h' hm' hs => ?_
  obtain ⟨o', ho', hd'⟩ := Heap.dictOf_iff.mp hm'
  refine h h' o' (F.change hs hmm.2.1 hmm.2.2) (fun q hq => ?_) hd' (fun a o2 ha hc => ne_of_dict N hm hd ha hc)
  rcases List.mem_cons.mp hq with rfl | hq
  · exact ⟨ho', hmm.2⟩
  · obtain ⟨h1, h3⟩ := mem_drp.mp hq
    exact ⟨(hs.2 _ h3).trans (N _ h1).1, (N _ h1).2⟩

theorem emptyDict {prog : Program} {w : World} : (dictOf [] 0).IsDictOf (PySem.intKind prog w) [] :=
  ⟨#[], 0, ⟨rfl, rfl, rfl⟩, rfl, fun e he => by simp at he, .nil, .nil⟩
theorem tup_cls {x y z : Value} : (tupO x y z).cls ≠ .type "dict" := fun e => absurd (Value.type.inj e) (by decide)
theorem in_drp {d a : Addr} {o : Obj} {news : Led} (h : (a, o) ∈ news) (hn : a ≠ d) : (a, o) ∈ drp d news := mem_drp.mpr ⟨h, hn⟩
theorem in_put {d a : Addr} {o o' : Obj} {news : Led} (h : (a, o) ∈ news) (hn : a ≠ d) : (a, o) ∈ (d, o') :: drp d news := List.mem_cons_of_mem _ (in_drp h hn)
theorem ne_of_above {d a : Addr} {o : Obj} {news : Led} (h : ∀ q ∈ news, q.1 < a) (hm : (d, o) ∈ news) : a ≠ d := Nat.ne_of_gt (h _ hm)
end
section

theorem kst_id {m : Str → Option Value} {ps : List (Str × Value)} (h : ∀ p ∈ ps, m p.1 = some p.2) : kstB m ps = m := by
  funext z
  exact kstB_eq h fun _ => rfl
theorem kst_id1 {m : Str → Option Value} {ps : List (Str × Value)} {x : Str} {v : Value} (h : ∀ p ∈ ps, m p.1 = some p.2) : (fun y => if y = x then some v else m y) = fun y => if y = x then some v else kstB m ps y := by rw [kst_id h]

section
variable {prog : Program} {w : World} {A : Around} {E : Value → Shared → Prop} {s : Shared} {env : Env} {h₀ : Heap} {x : Str} {body : List Stmt} {Q : Flow → Shared → Prop}
def TurnPost (h₀ : Heap) (L : Addr) (s : Shared) (I : Addr) (it : Obj) (J : (Str → Option Value) → Led → Prop) (Q : Flow → Shared → Prop) (f : Flow) (s₂ : Shared) : Prop :=
  match f with
  | .ret v => Q (.ret v) s₂
  | .brk => Q .next s₂
  | _ => ∃ h' tk' m' news', s₂ = { s with heap := h', toks := tk' } ∧ Fr h₀ L h' m' ∧ News h₀ L h' news' ∧ (I, it) ∈ news' ∧ J m' (drp I news')
theorem TurnPost.end {L : Addr} {I : Addr} {it : Obj} {J : (Str → Option Value) → Led → Prop} {h' : Heap} {tk' : Nat} {m' : Str → Option Value} {news' : Led} {f : Flow} (hf : f = .next ∨ f = .cont) (F : Fr h₀ L h' m') (N : News h₀ L h' news') (hI : (I, it) ∈ news') (hJ : J m' (drp I news')) :
    TurnPost h₀ L s I it J Q f { s with heap := h', toks := tk' } := by
  rcases hf with rfl | rfl
  · exact ⟨_, _, _, _, rfl, F, N, hI, hJ⟩
  · exact ⟨_, _, _, _, rfl, F, N, hI, hJ⟩
theorem TurnPost.unr {L : Addr} {I : Addr} {it : Obj} {J : (Str → Option Value) → Led → Prop} {f : Flow} {s₂ : Shared} (h : TurnPost h₀ L s I it J Q f s₂) : UnrPost h₀ L s I it J Q f s₂ := by
  have up : (∃ h' tk' m' news', s₂ = { s with heap := h', toks := tk' } ∧ Fr h₀ L h' m' ∧ News h₀ L h' news' ∧ (I, it) ∈ news' ∧ J m' (drp I news')) → UnrEnd h₀ L s I it J s₂ := by
    rintro ⟨h', tk', m', news', rfl, F, N, hI, hJ⟩
    refine ⟨h', tk', m', drp I news', rfl, F, fun q hq => ?_, fun q hq => (mem_drp.mp hq).2, hJ⟩
    rcases List.mem_cons.mp hq with rfl | hq
    · exact N _ hI
    · exact N _ (mem_drp.mp hq).1
  cases f with
  | ret v => exact h
  | brk => exact h
  | next => exact up h
  | cont => exact up h
theorem UnrPost.mono {L : Addr} {I : Addr} {it : Obj} {J J' : (Str → Option Value) → Led → Prop} {f : Flow} {s₂ : Shared} (hJ : ∀ m n, J m n → J' m n) (h : UnrPost h₀ L s I it J Q f s₂) : UnrPost h₀ L s I it J' Q f s₂ := by
  have up : UnrEnd h₀ L s I it J s₂ → UnrEnd h₀ L s I it J' s₂ := by
    rintro ⟨h', tk', m', news', e, F, N, o, j⟩
    exact ⟨h', tk', m', news', e, F, N, o, hJ _ _ j⟩
  cases f with
  | ret v => exact h
  | brk => exact h
  | next => exact up h
  | cont => exact up h

theorem range_rule {r : Addr} {a₀ b₀ : Int} {t₀ u₀ v₀ : Tok} {n : Nat} {m₀ : Str → Option Value} {news : Led} (J : Nat → (Str → Option Value) → Led → Prop)
    (hh : A.handled = none) (hr : IsRange s.heap r a₀ b₀ 1 t₀ u₀ v₀) (hsmall : Builtin.Range.small a₀ b₀ 1 = true) (hn : Builtin.Range.rangeSize a₀ b₀ 1 = (n : Int)) (F : Fr h₀ env.locals s.heap m₀) (N : News h₀ env.locals s.heap news)
    (h0 : J 0 m₀ news)
    (turn : ∀ (i : Nat) (m₁ : Str → Option Value) (news₁ : Led) (I : Addr) (it : Obj) (t : Tok) (h : Heap) (tk : Nat), i < n → J i m₁ news₁ → it.cls = .type "range_iterator" → (∀ q ∈ news, q.1 ≠ I) →
      Fr h₀ env.locals h (fun y => if y = x then some (.int (a₀ + (i : Int)) t) else m₁ y) → News h₀ env.locals h ((I, it) :: news₁) →
      wpAny (model prog w) A (execs body env) (TurnPost h₀ env.locals { s with heap := h, toks := tk } I it (J (i + 1)) Q) E { s with heap := h, toks := tk })
    (done : ∀ m₁ news₁ h tk, J n m₁ news₁ → Fr h₀ env.locals h m₁ → News h₀ env.locals h news₁ → Q .next { s with heap := h, toks := tk }) :
    wpAny (model prog w) A (pyIter (.ref r)) (fun it s₂ => LoopAtV prog w A h₀ env x body Q E it s₂) E s := by
  refine iter_rangeUnr hh hr hsmall hn F N fun I hI => ?_
  have key : ∀ (k i : Nat) m₁ news₁, i + k = n → J i m₁ news₁ → RangeRest prog w A E h₀ env x body Q s I a₀ n k i m₁ news₁ := by
    intro k
    induction k with
    | zero =>
      intro i m₁ news₁ e hJ
      have e' : i = n := by omega
      subst e'
      exact fun h tk F N => done _ _ h tk hJ F N
    | succ k ih =>
      intro i m₁ news₁ e hJ t h tk F N
      refine wpAny_mono (turn i m₁ news₁ I _ t h tk (by omega) hJ rfl (fun q hq => Nat.ne_of_lt (hI q hq)) F N) (fun f s₂ p => UnrPost.mono (fun m' n' j => ih (i + 1) m' n' (by omega) j) p.unr) fun _ _ e => e
  exact key n 0 m₀ news (by omega) h0

theorem list_rule {ax : Addr} {lo : Obj} {vs : List Value} {n : Nat} {m₀ : Str → Option Value} {news : Led} (J : Nat → (Str → Option Value) → Led → Prop)
    (hh : A.handled = none) (F : Fr h₀ env.locals s.heap m₀) (N : News h₀ env.locals s.heap news) (hm : (ax, lo) ∈ news) (hc : lo.cls = .type "list") (hd : lo.data = .seq vs.toArray n)
    (h0 : J 0 m₀ news) (hlp : ∀ i m n, J i m n → (ax, lo) ∈ n)
    (turn : ∀ (i : Nat) (v : Value) (m₁ : Str → Option Value) (news₁ : Led) (I : Addr) (it : Obj) (h : Heap) (tk : Nat), vs[i]? = some v → J i m₁ news₁ → it.cls = .type "list_iterator" → (∀ q ∈ news, q.1 ≠ I) →
      Fr h₀ env.locals h (fun y => if y = x then some v else m₁ y) → News h₀ env.locals h ((I, it) :: news₁) →
      wpAny (model prog w) A (execs body env) (TurnPost h₀ env.locals { s with heap := h, toks := tk } I it (J (i + 1)) Q) E { s with heap := h, toks := tk })
    (done : ∀ m₁ news₁ h tk, J vs.length m₁ news₁ → Fr h₀ env.locals h m₁ → News h₀ env.locals h news₁ → Q .next { s with heap := h, toks := tk }) :
    wpAny (model prog w) A (pyIter (.ref ax)) (fun it s₂ => LoopAtV prog w A h₀ env x body Q E it s₂) E s := by
  refine iter_listUnr hh F N hm hc hd fun I hI => ?_
  have key : ∀ (r : List Value) (i : Nat) m₁ news₁, r = vs.drop i → i ≤ vs.length → J i m₁ news₁ → ListRest prog w A E h₀ env x body Q s I (ax, lo) r m₁ news₁ := by
    intro r
    induction r with
    | nil =>
      intro i m₁ news₁ e hi hJ
      have e' : i = vs.length := by
        have := congrArg List.length e
        rw [List.length_drop, List.length_nil] at this
        omega
      subst e'
      exact fun h tk F N => done _ _ h tk hJ F N
    | cons v r ih =>
      intro i m₁ news₁ e hi hJ it h tk hic F N
      have hlt : i < vs.length := by
        have := congrArg List.length e
        rw [List.length_drop, List.length_cons] at this
        omega
      have hv : vs[i]? = some v := by
        have := congrArg (·[0]?) e
        simp at this
        simpa using this.symm
      have hr : r = vs.drop (i + 1) := by
        have := congrArg List.tail e
        simpa using this
      refine wpAny_mono (turn i v m₁ news₁ I it h tk hv hJ hic (fun q hq => Nat.ne_of_lt (hI q hq)) F N) (fun f s₂ p => UnrPost.mono (fun m' n' j => ⟨hlp _ _ _ j, ih (i + 1) m' n' hr hlt j⟩) p.unr) fun _ _ e => e
  exact key vs 0 m₀ news (by simp) (Nat.zero_le _) h0
end
@[irreducible] def Hold (P : Prop) : Prop := P
theorem hold_out {P : Prop} (h : Hold P) : P := by unfold Hold at h; exact h
theorem hold_in {P : Prop} (h : P) : Hold P := by unfold Hold; exact h
def Has (m : Str → Option Value) (ps : List (Str × Value)) : Prop := ∀ p ∈ ps, m p.1 = some p.2
theorem fr_has {h₀ h : Heap} {L : Addr} {x : Str} {v : Value} {m : Str → Option Value} {ps : List (Str × Value)} (F : Fr h₀ L h (fun y => if y = x then some v else m y)) (hp : Has m ps) : Fr h₀ L h (fun y => if y = x then some v else kstB m ps y) := by
  rw [kst_id hp]; exact F
theorem fr_has0 {h₀ h : Heap} {L : Addr} {m : Str → Option Value} {ps : List (Str × Value)} (F : Fr h₀ L h m) (hp : Has m ps) : Fr h₀ L h (kstB m ps) := by
  rw [kst_id hp]; exact F
theorem has_nil {m : Str → Option Value} : Has m [] := fun _ hp => nomatch hp
theorem has_cons {m : Str → Option Value} {x : Str} {v : Value} {ps : List (Str × Value)} (h : m x = some v) (hp : Has m ps) : Has m ((x, v) :: ps) := fun p h' => by
  rcases List.mem_cons.mp h' with rfl | h'
  · exact h
  · exact hp p h'
theorem ints_at {vs : List Value} {ns : List Int} (h : IntsAre vs ns) : ∀ {n : Nat}, n < ns.length → ∃ t, vs.toArray[n]? = some (.int (ns.getD n 0) t) := by
  induction h with
  | nil => intro n hn; exact absurd hn (Nat.not_lt_zero _)
  | cons k t r ih =>
    intro n hn
    cases n with
    | zero => exact ⟨t, rfl⟩
    | succ n =>
      obtain ⟨t', e⟩ := ih (n := n) (by simpa using hn)
      exact ⟨t', by simpa using e⟩
end
section
local macro_rules | `(tactic| walk_at "exec For Name Call cons nil") => `(tactic| (k_here; (rename Fr _ _ _ _ => lF'); (with_unfolding_all refine' For_invVF lF' ?k1 ?k2 ?_; (case k1 => exact rfl); (case k2 => exact rfl); k_whole)))
local macro_rules | `(tactic| walk_at "pyIter ref") => `(tactic| (k_here; refine' hold_out ?_))
local macro_rules | `(tactic| walk_at "call builtin:len") => `(tactic| (k_here; k_dflt (refine' kst_len ?N ?m ?e ?f ?_; (case N => k_asm); (case m => k_mem); (case e => assumption); (case f => omega); k_whole)))

theorem append_led {prog : Program} {w : World} {A : Around} {E : Value → Shared → Prop} {s : Shared} {h₀ : Heap} {L l : Addr} {m : Str → Option Value} {news : Led} {vs : List Value} {n : Nat} {v : Value} {Q : Value → Shared → Prop} (F : Fr h₀ L s.heap m) (N : News h₀ L s.heap news) (hm : (l, listOf vs.toArray n) ∈ news) (hz : vs.length ≤ 64)
    (h : ∀ h' n', Fr h₀ L h' m → News h₀ L h' ((l, listOf (vs ++ [v]).toArray n') :: drp l news) → Q .none { s with heap := h' }) : wpAny (model prog w) A (call (.builtin "list.append") [.ref l, v]) Q E s := by
  have N2 : News h₀ L s.heap ((l, listOf vs.toArray n) :: drp l news) := fun q hq => by
    rcases List.mem_cons.mp hq with rfl | hq
    · exact N _ hm
    · exact N _ (mem_drp.mp hq).1
  refine append_K F N2 (Upd.head fun p hp => (mem_drp.mp hp).2) (fun h' F' N' => h h' (n + 1) F' ?_) ?_
  · rw [List.push_toArray] at N'
    exact N'
  · rw [List.size_toArray, sizeLine_eq]; omega
theorem codes_succ (x y : Int) (k : Nat) : ((List.range (k + 1)).map fun (i : Nat) => codeV x y (i : Int)) = ((List.range k).map fun (i : Nat) => codeV x y (i : Int)) ++ [codeV x y (k : Int)] := by
  rw [List.range_succ, List.map_append]; rfl
def encAi (cs : List Int) (k : Nat) : Int := (List.range k).foldl (fun a i => Builtin.bitOr a (Builtin.bitAnd (cs.getD i 0) 1 * 2 ^ i)) 0
def encBi (cs : List Int) (k : Nat) : Int := (List.range k).foldl (fun a i => Builtin.bitOr a ((cs.getD i 0).fdiv (2 ^ 1) * 2 ^ i)) 0
theorem encAi_succ (cs : List Int) (k : Nat) : encAi cs (k + 1) = Builtin.bitOr (encAi cs k) (Builtin.bitAnd (cs.getD k 0) 1 * 2 ^ k) := by
  unfold encAi
  rw [List.range_succ, List.foldl_append]; rfl
theorem encBi_succ (cs : List Int) (k : Nat) : encBi cs (k + 1) = Builtin.bitOr (encBi cs k) ((cs.getD k 0).fdiv (2 ^ 1) * 2 ^ k) := by
  unfold encBi
  rw [List.range_succ, List.foldl_append]; rfl
theorem drp_keep {I : Addr} {news news0 : Led} (h : ∀ q ∈ news0, q ∈ news) (hI : ∀ q ∈ news0, q.1 ≠ I) : ∀ q ∈ news0, q ∈ drp I news := fun q hq => mem_drp.mpr ⟨h q hq, hI q hq⟩
theorem news_hd {h₀ h : Heap} {L : Addr} {x : Addr × Obj} {news n₁ : Led} (hs : ∀ q ∈ news, q ∈ n₁) (N : News h₀ L h (x :: n₁)) : News h₀ L h (x :: news) := fun q hq => by
  rcases List.mem_cons.mp hq with rfl | hq
  · exact N _ (.head _)
  · exact N _ (.tail _ (hs q hq))
theorem rangeU {n : Nat} (h : n ≤ 4) : Builtin.Range.small 0 (n : Int) 1 = true ∧ Builtin.Range.rangeSize 0 (n : Int) 1 = (n : Int) := by
  have : n = 0 ∨ n = 1 ∨ n = 2 ∨ n = 3 ∨ n = 4 := by omega
  rcases this with rfl | rfl | rfl | rfl | rfl <;> decide
set_option maxRecDepth 100000 in
set_option maxHeartbeats 8000000 in
theorem con_from {w : World} {p : Program} {loose : List Str} {mean : ExcName → Option Value} {mg mb : Str → Option Value} {ra : Addr} {vs : List Value} {cs : List Int} {nn : Nat} (hi : IntsAre vs cs) (h1 : 1 ≤ cs.length) (h3 : cs.length ≤ 3) (hc : ∀ c ∈ cs, 0 ≤ c ∧ c < 4) :
    Con w p loose mean mg mb 63 3 24 [.ref ra] (fun news => (ra, listOf vs.toArray nn) ∈ news)
      (fun news r news' => ∃ b u1 u2 u3, r = .ref b ∧ news' = (b, tupO (.int cs.length u1) (.int (encA cs) u2) (.int (encB cs) u3)) :: news) := by
  unfold Con
  k_fill
  intro dp un gd cn cs0 a ccd cl outer A₀ base h₀ L m news s Q E B F X N T hk hpre hd hu hret
  have hra : (ra, listOf vs.toArray nn) ∈ news := hpre
  have hiH : Hold (IntsAre vs cs) := hold_in hi
  have hvl : vs.length = cs.length := by have := hi.length; omega
  refine wpAny_call ?_
  k_dflt ktr_enter
  k_steps
  refine hold_in ?_
  rename IsRange _ _ _ _ _ _ _ _ => rg
  rename Fr _ _ _ _ => F5
  rename News _ _ _ _ => N5
  refine range_rule (n := cs.length) (fun i m' n' => (∀ q ∈ news, q ∈ n') ∧ ∃ ta tb, Has m' [(Str.ofString "row", .ref ra), (Str.ofString "a", .int (encAi cs i) ta), (Str.ofString "b", .int (encBi cs i) tb)]) rfl rg (rangeU (by omega)).1 (rangeU (by omega)).2 F5 N5 ⟨fun q hq => hq, _, _, (has_cons (by exact rfl) (has_cons (by exact rfl) (has_cons (by exact rfl) (has_nil))))⟩ ?turn ?done
  case turn =>
    rintro i m₁ n₁ It it t h tk hii ⟨hsub, ta, tb, hps⟩ hic hoff F9 N9
    rw [Int.zero_add] at F9
    have F1 : Fr _ _ h (fun y => if y = Str.ofString "i" then some (.int (i : Int) t) else if y = Str.ofString "row" then some (.ref ra) else if y = Str.ofString "a" then some (.int (encAi cs i) ta) else if y = Str.ofString "b" then some (.int (encBi cs i) tb) else m₁ y) := fr_has F9 hps
    have hra1 := hsub _ hra
    obtain ⟨tc, hcx⟩ := ints_at (hold_out hiH) hii
    have hcx : vs.toArray[((i : Nat) : Int).toNat]? = some (.int (cs.getD i 0) tc) := hcx
    have hci : 0 ≤ cs.getD i 0 ∧ cs.getD i 0 < 4 := by
      rw [show cs.getD i 0 = cs[i] from by rw [List.getD_eq_getElem?_getD, List.getElem?_eq_getElem hii]; rfl]
      exact hc _ (List.getElem_mem hii)
    obtain ⟨hci0, hci4⟩ := hci
    have hi3 : i < 3 := by omega
    have eA := encAi_succ cs i
    have eB := encBi_succ cs i
    k_steps
    exact TurnPost.end (.inl rfl) (by assumption) (by assumption) (.head _) ⟨drp_keep (fun q hq => .tail _ (hsub q hq)) hoff, _, _, has_cons (by exact rfl) (has_cons (by rw [eA]; exact rfl) (has_cons (by rw [eB]; exact rfl) has_nil))⟩
  case done =>
    rintro m₁ n₁ h tk ⟨hsub, ta, tb, hps⟩ F9 N9
    have F1 : Fr _ _ h (fun y => if y = Str.ofString "row" then some (.ref ra) else if y = Str.ofString "a" then some (.int (encAi cs cs.length) ta) else if y = Str.ofString "b" then some (.int (encBi cs cs.length) tb) else m₁ y) := fr_has0 F9 hps
    have N1 : News _ _ h n₁ := N9
    have hra1 := hsub _ hra
    clear F5 N5 F9 N9 rg
    dsimp only
    k_steps
    rename (∀ p ∈ n₁, p.1 < _) => hlt9
    rename News h₀ L _ _ => N6
    exact hret _ _ _ _ (by assumption) (news_hd hsub N6) ⟨_, _, _, _, rfl, rfl⟩
end
section
local macro_rules | `(tactic| walk_at "exec For Name Call cons nil") => `(tactic| (k_here; (rename Fr _ _ _ _ => lF'); (with_unfolding_all refine' For_invVF lF' ?k1 ?k2 ?_; (case k1 => exact rfl); (case k2 => exact rfl); k_whole)))
local macro_rules | `(tactic| walk_at "pyIter ref") => `(tactic| (k_here; refine' hold_out ?_))
local macro_rules | `(tactic| walk_at "call ref") => `(tactic| (k_here; k_dflt (refine' con_use (con_code ?x0 ?x1 ?y0 ?y1 ?h0 ?h8) ?B ?F ?X ?N ?T ?K ?hp ?hd ?hu ?_; (case B => k_asm); (case F => k_asm); (case X => k_asm); (case N => k_asm); (case T => k_asm); (case K => first | exact rfl | assumption); (case hd => ktr_room); (case hu => ktr_units); (case hp => k_mem); (case x0 => omega); (case x1 => omega); (case y0 => omega); (case y1 => omega); (case h0 => omega); (case h8 => omega); k_whole); intro r' news' h' tk' F' N' hpost; (obtain ⟨hn', t', hr'⟩ := hpost); subst hn'; subst hr'; (try k_fold)))
local macro_rules | `(tactic| walk_at "call builtin:list.append") => `(tactic| (k_here; k_dflt (refine' append_led ?F ?N ?hm ?hz ?_; (case F => k_asm); (case N => k_asm); (case hm => k_mem); (case hz => omega); k_whole); intro h' n' F' N'))

set_option maxRecDepth 100000 in
set_option maxHeartbeats 8000000 in
theorem con_codes {w : World} {p : Program} {loose : List Str} {mean : ExcName → Option Value} {mg mb : Str → Option Value} {va : Addr} {n x y : Int} {t1 t2 t3 : Tok} (hn : 1 ≤ n) (hn' : n ≤ 4) (hx : 0 ≤ x) (hx' : x < 16) (hy : 0 ≤ y) (hy' : y < 16) :
    Con w p loose mean mg mb 56 3 24 [.ref va] (fun news => (va, tupO (.int n t1) (.int x t2) (.int y t3)) ∈ news)
      (fun news r news' => ∃ ra vs nn, r = .ref ra ∧ news' = (ra, listOf vs.toArray nn) :: news ∧ IntsAre vs (codesV n x y)) := by
  unfold Con
  k_fill
  intro dp un gd cn cs0 a ccd cl outer A₀ base h₀ L m news s Q E B F X N T hk hpre hd hu hret
  have hva : (va, tupO (.int n t1) (.int x t2) (.int y t3)) ∈ news := hpre
  obtain ⟨k, rfl⟩ := Int.eq_ofNat_of_zero_le (show 0 ≤ n by omega)
  have hb : Hold (1 ≤ (k : Int) ∧ (k : Int) ≤ 4) := hold_in ⟨hn, hn'⟩
  clear hn hn'
  refine wpAny_call ?_
  k_dflt ktr_enter
  k_steps
  refine hold_in ?_
  obtain ⟨hn, hn'⟩ := hold_out hb
  rename IsRange _ _ _ _ _ _ _ _ => rg
  rename Fr _ _ _ _ => F5
  rename News _ _ _ _ => N5
  rename (∀ p ∈ news, p.1 < _) => hlt
  obtain ⟨ra, u9, F6, N6, hlt⟩ : ∃ (ra : Addr) (u9 : Str → Option Value), Fr _ _ _ (fun y => if y = Str.ofString "v" then some (.ref va) else if y = Str.ofString "row" then some (.ref ra) else u9 y) ∧ News _ _ _ ((ra, listOf #[] 0) :: news) ∧ ∀ p ∈ news, p.1 < ra := ⟨_, _, fr_has0 (ps := [(Str.ofString "v", .ref va), (Str.ofString "row", .ref _)]) F5 (has_cons (by exact rfl) (has_cons (by exact rfl) (has_nil))), N5, hlt⟩
  refine range_rule (n := k) (fun i m' n' => (∀ q ∈ news, q ∈ n') ∧ (∃ vs nn, (ra, listOf vs.toArray nn) ∈ n' ∧ IntsAre vs ((List.range i).map fun (j : Nat) => codeV x y (j : Int)) ∧ vs.length = i) ∧ Has m' [(Str.ofString "v", .ref va), (Str.ofString "row", .ref ra)]) rfl rg (rangeU (by omega)).1 (rangeU (by omega)).2 F6 N6 ⟨fun q hq => .tail _ hq, ⟨[], 0, .head _, .nil, rfl⟩, (has_cons (by exact rfl) (has_cons (by exact rfl) (has_nil)))⟩ ?turn ?done
  case turn =>
    rintro i m₁ n₁ It it t h tk hii ⟨hsub, ⟨vs, nn, hrm, hvs, hvl⟩, hps⟩ hic hoff F9 N9
    rw [Int.zero_add] at F9
    have F1 : Fr _ _ h (fun y => if y = Str.ofString "i" then some (.int (i : Int) t) else if y = Str.ofString "v" then some (.ref va) else if y = Str.ofString "row" then some (.ref ra) else m₁ y) := fr_has F9 hps
    have hva1 := hsub _ hva
    have hi4 : i < 4 := by omega
    have hIr : ra ≠ It := hoff (ra, _) (.head _)
    k_steps
    refine TurnPost.end (.inl rfl) (by assumption) (by assumption) (.tail _ (mem_drp.mpr ⟨.head _, fun e => hIr e.symm⟩)) ⟨drp_keep (fun q hq => .tail _ (mem_drp.mpr ⟨.tail _ (hsub q hq), Nat.ne_of_lt (hlt q hq)⟩)) (fun q hq => hoff q (.tail _ hq)), ⟨_, _, mem_drp.mpr ⟨.head _, hIr⟩, ?_, ?_⟩, (has_cons (by exact rfl) (has_cons (by exact rfl) (has_nil)))⟩
    · rw [codes_succ]; exact IntsAre.append hvs (.cons _ _ .nil)
    · rw [List.length_append, hvl]; rfl
  case done =>
    rintro m₁ n₁ h tk ⟨hsub, ⟨vs, nn, hrm, hvs, hvl⟩, hps⟩ F9 N9
    have F1 : Fr _ _ h (fun y => if y = Str.ofString "v" then some (.ref va) else if y = Str.ofString "row" then some (.ref ra) else m₁ y) := fr_has0 F9 hps
    have N1 : News _ _ h n₁ := N9
    clear F5 N5 F6 N6 F9 N9 rg
    dsimp only
    k_steps
    rename News h₀ L _ _ => N6
    exact hret _ ((ra, listOf vs.toArray nn) :: news) _ _ (by assumption) (fun q hq => by
      rcases List.mem_cons.mp hq with rfl | hq
      · exact N6 _ hrm
      · exact N6 _ (hsub q hq)) ⟨_, _, _, rfl, rfl, hvs⟩
end
section

def Cel (kvs : List (Int × Value)) (key : Int) (net : Bool) (wd x y : Int) (news : Led) : Prop :=
  (∃ ta u1 u2 u3, valueAt kvs key = some (.ref ta) ∧ (ta, tupO (.int wd u1) (.int x u2) (.int y u3)) ∈ news) ∨ (valueAt kvs key = none ∧ x = blX net wd ∧ y = 2 ^ wd.toNat - 1)
def CelM (w : World) (kvm : List (Int × Value)) (key place : Int) (net : Bool) (wd x y : Int) (news : Led) : Prop :=
  (∃ wa ow kvw, valueAt kvm key = some (.ref wa) ∧ (wa, ow) ∈ news ∧ ow.IsDictOf (PySem.intKind PySem.Challenge.rw_pq0454_01.row.prog w) kvw ∧ (wa == sysModules) = false ∧ Cel kvw place net wd x y news) ∨ (valueAt kvm key = none ∧ x = blX net wd ∧ y = 2 ^ wd.toNat - 1)

theorem con_get {w : World} {p : Program} {loose : List Str} {mean : ExcName → Option Value} {mg mb : Str → Option Value} {st sdx vd md sl : Addr} {es : List DictEntry} {ne nsl : Nat} {sigs : List Value} (hs1 : getL (Str.ofString "signals") es = some (some (.ref sl))) (hs2 : getL (Str.ofString "values") es = some (some (.ref vd))) (hs3 : getL (Str.ofString "memories") es = some (some (.ref md))) {sg sd : Addr} {es2 : List DictEntry} {ne2 : Nat} {key : Int} {tk0 : Tok} (hk0 : 0 ≤ key) (hk3 : key < 4) (hsig : sigs.toArray[key.toNat]? = some (.ref sg)) {ov : Obj} {kvs : List (Int × Value)} (hdv : ov.IsDictOf (PySem.intKind PySem.Challenge.rw_pq0454_01.row.prog w) kvs) (lov : (vd == sysModules) = false) (hnm : getL (Str.ofString "is_net") es2 = some none) {net : Bool} {t5 : Tok} (hkd : getL (Str.ofString "kind") es2 = some (some (.str (kdS net) t5))) {wd : Int} {t6 : Tok} (hwd : getL (Str.ofString "width") es2 = some (some (.int wd t6))) (hw1 : 1 ≤ wd) (hw4 : wd ≤ 4) {x y : Int} :
    Con w p loose mean mg mb 91 6 200 [.ref st, .int key tk0] (fun news => ((st, instObj 108 sdx) ∈ news ∧ (sdx, dictOf es ne) ∈ news ∧ (vd, ov) ∈ news ∧ (sl, listOf sigs.toArray nsl) ∈ news ∧ (sg, instObj 171 sd) ∈ news ∧ (sd, dictOf es2 ne2) ∈ news) ∧ Cel kvs key net wd x y news) (fun news r news' => ∃ tl b u1 u2 u3, news' = tl ++ news ∧ r = .ref b ∧ (b, tupO (.int wd u1) (.int x u2) (.int y u3)) ∈ news') := by
  refine con_pre ?_
  rintro nw ⟨hpre, ⟨ta, u1, u2, u3, hl, hm⟩ | ⟨hl, rfl, rfl⟩⟩
  · exact con_mono (con_get_s hs1 hs2 hs3 hk0 hk3 hsig hdv lov hl) (fun n h => ⟨h.2.1, by rw [h.1]; exact hm⟩) fun _ _ _ h => h
  · exact con_mono (con_get_x hs1 hs2 hs3 hk0 hk3 hsig hdv lov hl hnm hkd hwd hw1 hw4) (fun n h => h.2.1) fun _ _ _ h => h
theorem con_word {w : World} {p : Program} {loose : List Str} {mean : ExcName → Option Value} {mg mb : Str → Option Value} {st sdx vd md sl : Addr} {es : List DictEntry} {ne nsl : Nat} {sigs : List Value} (hs1 : getL (Str.ofString "signals") es = some (some (.ref sl))) (hs2 : getL (Str.ofString "values") es = some (some (.ref vd))) (hs3 : getL (Str.ofString "memories") es = some (some (.ref md))) {sg sd : Addr} {es2 : List DictEntry} {ne2 : Nat} {key : Int} {tk0 : Tok} (hk0 : 0 ≤ key) (hk3 : key < 4) (hsig : sigs.toArray[key.toNat]? = some (.ref sg)) {om : Obj} {kvm : List (Int × Value)} (hdm : om.IsDictOf (PySem.intKind PySem.Challenge.rw_pq0454_01.row.prog w) kvm) (lom : (md == sysModules) = false) {place : Int} {tkp : Tok} (hnm : getL (Str.ofString "is_net") es2 = some none) {net : Bool} {t5 : Tok} (hkd : getL (Str.ofString "kind") es2 = some (some (.str (kdS net) t5))) {wd : Int} {t6 : Tok} (hwd : getL (Str.ofString "width") es2 = some (some (.int wd t6))) (hw1 : 1 ≤ wd) (hw4 : wd ≤ 4) {x y : Int} :
    Con w p loose mean mg mb 98 6 200 [.ref st, .int key tk0, .int place tkp] (fun news => ((st, instObj 108 sdx) ∈ news ∧ (sdx, dictOf es ne) ∈ news ∧ (md, om) ∈ news ∧ (sl, listOf sigs.toArray nsl) ∈ news ∧ (sg, instObj 171 sd) ∈ news ∧ (sd, dictOf es2 ne2) ∈ news) ∧ CelM w kvm key place net wd x y news) (fun news r news' => ∃ tl b u1 u2 u3, news' = tl ++ news ∧ r = .ref b ∧ (b, tupO (.int wd u1) (.int x u2) (.int y u3)) ∈ news') := by
  refine con_pre ?_
  rintro nw ⟨hpre, ⟨wa, ow, kvw, hlm, hw, hdw, low, ⟨ta, u1, u2, u3, hl, hm⟩ | ⟨hl, rfl, rfl⟩⟩ | ⟨hlm, rfl, rfl⟩⟩
  · exact con_mono (con_word_s hs1 hs2 hs3 hk0 hk3 hsig hdm lom hdw low hlm hl) (fun n h => ⟨h.2.1, by rw [h.1]; exact hw, by rw [h.1]; exact hm⟩) fun _ _ _ h => h
  · exact con_mono (con_word_x hs1 hs2 hs3 hk0 hk3 hsig hdm lom hdw low hlm hl hnm hkd hwd hw1 hw4) (fun n h => ⟨h.2.1, by rw [h.1]; exact hw⟩) fun _ _ _ h => h
  · exact con_mono (con_word_n hs1 hs2 hs3 hk0 hk3 hsig hdm lom hlm hnm hkd hwd hw1 hw4) (fun n h => h.2.1) fun _ _ _ h => h
theorem con_put {w : World} {p : Program} {loose : List Str} {mean : ExcName → Option Value} {mg mb : Str → Option Value} {va pa : Addr} {n x y lo pn px py : Int} {t1 t2 t3 t4 t5 t6 t7 : Tok} (hn : 1 ≤ n) (hn' : n ≤ 4) (hx : 0 ≤ x) (hx' : x < 16) (hy : 0 ≤ y) (hy' : y < 16) (hlo : -1 ≤ lo) (hlo' : lo ≤ 4) (hpn : 1 ≤ pn) (hpn' : pn ≤ 3) (hpx : 0 ≤ px) (hpx' : px < 8) (hpy : 0 ≤ py) (hpy' : py < 8) :
    Con w p loose mean mg mb 70 3 24 [.ref va, .int lo t7, .ref pa] (fun news => (va, tupO (.int n t1) (.int x t2) (.int y t3)) ∈ news ∧ (pa, tupO (.int pn t4) (.int px t5) (.int py t6)) ∈ news)
      (fun news r news' => ∃ tl b u2 u3, news' = tl ++ news ∧ r = .ref b ∧ (b, tupO (.int n t1) (.int (planeV n lo pn x px) u2) (.int (planeV n lo pn y py) u3)) ∈ news') := by
  refine con_mono (con_of (conF_put hn hn' hx hx' hy hy' hlo hlo' hpn hpn' hpx hpx' hpy hpy' (va := va) (pa := pa) (t1 := t1) (t2 := t2) (t3 := t3) (t4 := t4) (t5 := t5) (t6 := t6) (t7 := t7))) ?_ ?_
  · rintro n ⟨h1, h2⟩ q hq
    simp only [List.mem_cons, List.not_mem_nil, or_false] at hq
    rcases hq with rfl | rfl
    · exact h1
    · exact h2
  · rintro n r n' ⟨tl, rfl, hP, b, u2, u3, rfl, hm⟩
    refine ⟨tl, b, u2, u3, rfl, rfl, ?_⟩
    rcases List.mem_append.mp hm with h | h
    · exact List.mem_append.mpr (.inl h)
    · exact List.mem_append.mpr (.inr (hP _ h))
end
section
local macro_rules | `(tactic| walk_at "no such place") => `(tactic| fail "none")
local macro_rules | `(tactic| walk_at "call ref") => `(tactic| (k_here; k_dflt (refine' con_use (con_get ?hs1 ?hs2 ?hs3 ?hk0 ?hk3 ?hsig ?hdv ?lov ?hnm ?hkd ?hwd ?hw1 ?hw4) ?B ?F ?X ?N ?T ?K ⟨⟨?m1, ?m2, ?m3, ?m4, ?m5, ?m6⟩, ?cel⟩ ?hd ?hu ?_; (case B => k_asm); (case F => k_asm); (case X => k_asm); (case N => k_asm); (case T => k_asm); (case K => first | exact rfl | assumption); (case hd => ktr_room); (case hu => ktr_units); (case m1 => k_mem); (case m2 => k_mem); (case hs1 => assumption); (case hs2 => assumption); (case hs3 => assumption); (case m3 => k_mem); (case m4 => k_mem); (case hsig => assumption); (case m5 => k_mem); (case m6 => k_mem); (case hdv => assumption); (case lov => assumption); (case hnm => assumption); (case hkd => assumption); (case hwd => assumption); (case hk0 => omega); (case hk3 => omega); (case hw1 => omega); (case hw4 => omega); (case cel => assumption); k_whole); intro r' news' h' tk' F' N' hpost; (obtain ⟨tl', b', u1', u2', u3', hn', hr', hb'⟩ := hpost); subst hn'; subst hr'; (try k_fold)))
local macro_rules | `(tactic| walk_at "call ref") => `(tactic| (k_here; k_dflt (refine' con_use (con_put ?a1 ?a2 ?a3 ?a4 ?a5 ?a6 ?a7 ?a8 ?a9 ?a10 ?a11 ?a12 ?a13 ?a14) ?B ?F ?X ?N ?T ?K ⟨?m1, ?m2⟩ ?hd ?hu ?_; (case B => k_asm); (case F => k_asm); (case X => k_asm); (case N => k_asm); (case T => k_asm); (case K => first | exact rfl | assumption); (case hd => ktr_room); (case hu => ktr_units); (case m1 => k_mem); (case m2 => k_mem); (case a1 => omega); (case a2 => omega); (case a3 => omega); (case a4 => omega); (case a5 => omega); (case a6 => omega); (case a7 => omega); (case a8 => omega); (case a9 => omega); (case a10 => omega); (case a11 => omega); (case a12 => omega); (case a13 => omega); (case a14 => omega); k_whole); intro r' news' h' tk' F' N' hpost; (obtain ⟨tl', b', u2', u3', hn', hr', hb'⟩ := hpost); subst hn'; subst hr'; (try k_fold)))
local macro_rules | `(tactic| walk_at "compareOp Eq ref ref") => `(tactic| (k_here; (with_reducible show wpAny _ _ (compareOp CmpOp.Eq (Value.ref _) (Value.ref _)) _ _ _); k_dflt (refine' eq_tup3 ?N ?ha ?hb ?hu ?_; (case N => k_asm); (case ha => k_mem); (case hb => k_mem); (case hu => ktr_units); k_whole)))
local macro_rules | `(tactic| walk_at "setItem ref int") => `(tactic| (k_here; k_dflt (refine' setitem_led ?F ?N ?hm ?hd ?hz ?_; (case F => k_asm); (case N => k_asm); (case hm => k_mem); (case hd => assumption); (case hz => first | omega | (simp; done)); k_whole); intro h' o' F' N' hd' hne'))

set_option maxRecDepth 100000 in
set_option maxHeartbeats 8000000 in
theorem con_setN {w : World} {p : Program} {loose : List Str} {mean : ExcName → Option Value} {mg mb : Str → Option Value} {st sdx vd md sl : Addr} {es : List DictEntry} {ne nsl : Nat} {sigs : List Value} (hs1 : getL (Str.ofString "signals") es = some (some (.ref sl))) (hs2 : getL (Str.ofString "values") es = some (some (.ref vd))) (hs3 : getL (Str.ofString "memories") es = some (some (.ref md)))(hng : getL (Str.ofString "get") es = some none) (hnw : getL (Str.ofString "word") es = some none){sg sd : Addr} {es2 : List DictEntry} {ne2 : Nat} {key : Int} {tk0 : Tok} (hk0 : 0 ≤ key) (hk3 : key < 4) (hsig : sigs.toArray[key.toNat]? = some (.ref sg)){ov : Obj} {kvs : List (Int × Value)} (hdv : ov.IsDictOf (PySem.intKind PySem.Challenge.rw_pq0454_01.row.prog w) kvs) (lov : (vd == sysModules) = false)(hnm : getL (Str.ofString "is_net") es2 = some none) {net : Bool} {t5 : Tok} (hkd : getL (Str.ofString "kind") es2 = some (some (.str (kdS net) t5))) {wd : Int} {t6 : Tok} (hwd : getL (Str.ofString "width") es2 = some (some (.int wd t6))) (hw1 : 1 ≤ wd) (hw4 : wd ≤ 4){lo pn px py x y : Int} {pa : Addr} {t4 t8 t9 t7 : Tok} (hx : 0 ≤ x) (hx' : x < 16) (hy : 0 ≤ y) (hy' : y < 16) (hlo : -1 ≤ lo) (hlo' : lo ≤ 4) (hpn : 1 ≤ pn) (hpn' : pn ≤ 3) (hpx : 0 ≤ px) (hpx' : px < 8) (hpy : 0 ≤ py) (hpy' : py < 8) (hlen : kvs.length ≤ 64) :
    Con w p loose mean mg mb 105 9 300 [.ref st, .int key tk0, .none, .int lo t7, .ref pa] (fun news => ((st, instObj 108 sdx) ∈ news ∧ (sdx, dictOf es ne) ∈ news ∧ (vd, ov) ∈ news ∧ (sl, listOf sigs.toArray nsl) ∈ news ∧ (sg, instObj 171 sd) ∈ news ∧ (sd, dictOf es2 ne2) ∈ news) ∧ Cel kvs key net wd x y news ∧ (pa, tupO (.int pn t4) (.int px t8) (.int py t9)) ∈ news) (fun news r news' => (r = .bool false ∧ (planeV wd lo pn x px = x ∧ planeV wd lo pn y py = y) ∧ ∃ tl, news' = tl ++ news) ∨ (r = .bool true ∧ ¬(planeV wd lo pn x px = x ∧ planeV wd lo pn y py = y) ∧ ∃ ov' b u1 u2 u3, (vd, ov') ∈ news' ∧ ov'.IsDictOf (PySem.intKind PySem.Challenge.rw_pq0454_01.row.prog w) (stored kvs key (.ref b)) ∧ (b, tupO (.int wd u1) (.int (planeV wd lo pn x px) u2) (.int (planeV wd lo pn y py) u3)) ∈ news' ∧ ∀ q ∈ news, q.1 ≠ vd → q ∈ news')) := by
  unfold Con
  k_fill
  intro dp un gd cn cs a ccd cl outer A₀ base h₀ L m news s Q E B F X N T hk hpre hd hu hret
  obtain ⟨⟨hp1, hp2, hp3, hp4, hp5, hp6⟩, hcel, hpa⟩ := hpre
  refine wpAny_call ?_
  k_dflt ktr_enter
  k_steps
  · rename (_ = _ ∧ _ = _ ∧ _ = _) => q
    refine hret _ _ _ _ (by assumption) (by assumption) ?_
    exact .inl ⟨rfl, q.2, _, (List.append_assoc _ _ _).symm⟩
  · rename (¬ (_ = _ ∧ _ = _ ∧ _ = _)) => q
    rename (∀ (a : Addr) (o2 : Obj), (a, o2) ∈ _ ++ (_ ++ news) → o2.cls ≠ _ → a ≠ _) => hdif
    rename ((_, tupO (.int wd _) (.int (planeV wd lo pn x px) _) _) ∈ _) => hb
    refine hret _ _ _ _ (by assumption) (by assumption) ?_
    refine .inr ⟨rfl, fun e => q ⟨rfl, e⟩, _, _, _, _, _, .head _, by assumption, in_put hb (hdif _ _ hb tup_cls), fun q hq hne => in_put (List.mem_append_right _ (List.mem_append_right _ hq)) hne⟩
end
section
local macro_rules | `(tactic| k_mem) => `(tactic| ((with_reducible show _ ∈ drp _ _); refine' in_drp ?ha ?hb; (case ha => k_mem); (case hb => first | assumption | exact ne_of_above (by assumption) (by k_mem))))
local macro_rules | `(tactic| walk_at "subscriptTail") => `(tactic| (k_here; (with_reducible show wpAny _ _ (subscriptTail _ _ (Value.ref _) (Value.int _ _)) _ _ _); k_dflt (refine' kda_item (knd := PySem.intKind _ _) ?N ?m ?d (intKind_is _ _ _ _) ?hl ?_; (case N => k_asm); (case m => k_mem); (case d => assumption); (case hl => first | assumption | exact valueAt_self); k_whole)))
local macro_rules | `(tactic| walk_at "getItem ref int") => `(tactic| (k_here; k_dflt (refine' kdt_getItem (knd := PySem.intKind _ _) ?N ?m ?d (intKind_is _ _ _ _) ?hl ?_; (case N => k_asm); (case m => k_mem); (case d => assumption); (case hl => first | assumption | exact valueAt_self); k_whole)))
local macro_rules | `(tactic| walk_at "call ref") => `(tactic| (k_here; k_dflt (refine' con_use (con_word ?hs1 ?hs2 ?hs3 ?hk0 ?hk3 ?hsig ?hdm ?lom ?hnm ?hkd ?hwd ?hw1 ?hw4) ?B ?F ?X ?N ?T ?K ⟨⟨?m1, ?m2, ?m3, ?m4, ?m5, ?m6⟩, ?cel⟩ ?hd ?hu ?_; (case B => k_asm); (case F => k_asm); (case X => k_asm); (case N => k_asm); (case T => k_asm); (case K => first | exact rfl | assumption); (case hd => ktr_room); (case hu => ktr_units); (case m1 => k_mem); (case m2 => k_mem); (case hs1 => assumption); (case hs2 => assumption); (case hs3 => assumption); (case m3 => k_mem); (case m4 => k_mem); (case hsig => assumption); (case m5 => k_mem); (case m6 => k_mem); (case hdm => assumption); (case lom => assumption); (case hnm => assumption); (case hkd => assumption); (case hwd => assumption); (case hk0 => omega); (case hk3 => omega); (case hw1 => omega); (case hw4 => omega); (case cel => assumption); k_whole); intro r' news' h' tk' F' N' hpost; (obtain ⟨tl', b', u1', u2', u3', hn', hr', hb'⟩ := hpost); subst hn'; subst hr'; (try k_fold)))
local macro_rules | `(tactic| walk_at "call ref") => `(tactic| (k_here; k_dflt (refine' con_use (con_put ?a1 ?a2 ?a3 ?a4 ?a5 ?a6 ?a7 ?a8 ?a9 ?a10 ?a11 ?a12 ?a13 ?a14) ?B ?F ?X ?N ?T ?K ⟨?m1, ?m2⟩ ?hd ?hu ?_; (case B => k_asm); (case F => k_asm); (case X => k_asm); (case N => k_asm); (case T => k_asm); (case K => first | exact rfl | assumption); (case hd => ktr_room); (case hu => ktr_units); (case m1 => k_mem); (case m2 => k_mem); (case a1 => omega); (case a2 => omega); (case a3 => omega); (case a4 => omega); (case a5 => omega); (case a6 => omega); (case a7 => omega); (case a8 => omega); (case a9 => omega); (case a10 => omega); (case a11 => omega); (case a12 => omega); (case a13 => omega); (case a14 => omega); k_whole); intro r' news' h' tk' F' N' hpost; (obtain ⟨tl', b', u2', u3', hn', hr', hb'⟩ := hpost); subst hn'; subst hr'; (try k_fold)))
local macro_rules | `(tactic| walk_at "compareOp Eq ref ref") => `(tactic| (k_here; (with_reducible show wpAny _ _ (compareOp CmpOp.Eq (Value.ref _) (Value.ref _)) _ _ _); k_dflt (refine' eq_tup3 ?N ?ha ?hb ?hu ?_; (case N => k_asm); (case ha => k_mem); (case hb => k_mem); (case hu => ktr_units); k_whole)))
local macro_rules | `(tactic| walk_at "setItem ref int") => `(tactic| (k_here; k_dflt (refine' setitem_led ?F ?N ?hm ?hd ?hz ?_; (case F => k_asm); (case N => k_asm); (case hm => k_mem); (case hd => assumption); (case hz => first | omega | (simp; done)); k_whole); intro h' o' F' N' hd' hne'))
local macro_rules | `(tactic| walk_at "call ref") => `(tactic| (k_here; k_dflt (refine' con_use (con_words_i ?e1 ?e2 ?e3 ?e4 ?e5 ?e6) ?B ?F ?X ?N ?T ?K ⟨?m1, ?m2⟩ ?hd ?hu ?_; (case B => k_asm); (case F => k_asm); (case X => k_asm); (case N => k_asm); (case T => k_asm); (case K => first | exact rfl | assumption); (case hd => ktr_room); (case hu => ktr_units); (case m1 => k_mem); (case m2 => k_mem); (case e1 => assumption); (case e2 => assumption); (case e3 => omega); (case e4 => omega); (case e5 => omega); (case e6 => omega); k_whole); intro r' news' h' tk' F' N' hpost; (obtain ⟨hn', t', hr'⟩ := hpost); subst hn'; subst hr'; (try k_fold)))
local macro_rules | `(tactic| walk_at "compareOp NotIn int ref") => `(tactic| (k_here; k_dflt (refine' kdg_notin (knd := PySem.intKind _ _) ?N ?m ?d ?lo (intKind_is _ _ _ _) _ ?hb ?_; (case N => k_asm); (case m => k_mem); (case d => assumption); (case lo => assumption); (case hb => assumption); k_whole); (try dsimp only [Bool.not_true, Bool.not_false])))

set_option maxRecDepth 100000 in
set_option maxHeartbeats 8000000 in
theorem con_setM_a {w : World} {p : Program} {loose : List Str} {mean : ExcName → Option Value} {mg mb : Str → Option Value} {st sdx vd md sl : Addr} {es : List DictEntry} {ne nsl : Nat} {sigs : List Value} (hs1 : getL (Str.ofString "signals") es = some (some (.ref sl))) (hs2 : getL (Str.ofString "values") es = some (some (.ref vd))) (hs3 : getL (Str.ofString "memories") es = some (some (.ref md)))(hng : getL (Str.ofString "get") es = some none) (hnw : getL (Str.ofString "word") es = some none){sg sd : Addr} {es2 : List DictEntry} {ne2 : Nat} {key : Int} {tk0 : Tok} (hk0 : 0 ≤ key) (hk3 : key < 4) (hsig : sigs.toArray[key.toNat]? = some (.ref sg)){om : Obj} {kvm : List (Int × Value)} (hdm : om.IsDictOf (PySem.intKind PySem.Challenge.rw_pq0454_01.row.prog w) kvm) (lom : (md == sysModules) = false) {place : Int} {tkp : Tok}(hnm : getL (Str.ofString "is_net") es2 = some none) {net : Bool} {t5 : Tok} (hkd : getL (Str.ofString "kind") es2 = some (some (.str (kdS net) t5))) {wd : Int} {t6 : Tok} (hwd : getL (Str.ofString "width") es2 = some (some (.int wd t6))) (hw1 : 1 ≤ wd) (hw4 : wd ≤ 4){lo pn px py x y : Int} {pa : Addr} {t4 t8 t9 t7 : Tok} (hx : 0 ≤ x) (hx' : x < 16) (hy : 0 ≤ y) (hy' : y < 16) (hlo : -1 ≤ lo) (hlo' : lo ≤ 4) (hpn : 1 ≤ pn) (hpn' : pn ≤ 3) (hpx : 0 ≤ px) (hpx' : px < 8) (hpy : 0 ≤ py) (hpy' : py < 8)(hnws : getL (Str.ofString "words") es2 = some none) {fi la : Int} {t10 t11 : Tok} (hfi : getL (Str.ofString "first") es2 = some (some (.int fi t10))) (hla : getL (Str.ofString "last") es2 = some (some (.int la t11))) (h1 : 0 ≤ fi) (h2 : fi ≤ 4) (h3 : 0 ≤ la) (h4 : la ≤ 4) (hsm : @Ne Nat sdx md) (hlen : kvm.length ≤ 64) (hlm : valueAt kvm key = none) (hlm2 : (valueAt kvm key).isSome = false) (hxb : x = blX net wd) (hyb : y = 2 ^ wd.toNat - 1) :
    Con w p loose mean mg mb 105 9 300 [.ref st, .int key tk0, .int place tkp, .int lo t7, .ref pa] (fun news => ((st, instObj 108 sdx) ∈ news ∧ (sdx, dictOf es ne) ∈ news ∧ (md, om) ∈ news ∧ (sl, listOf sigs.toArray nsl) ∈ news ∧ (sg, instObj 171 sd) ∈ news ∧ (sd, dictOf es2 ne2) ∈ news) ∧ (pa, tupO (.int pn t4) (.int px t8) (.int py t9)) ∈ news) (fun news r news' => (r = .bool false ∧ (place < 0 ∨ ((if la - fi < 0 then -(la - fi) else la - fi) + 1) ≤ place ∨ (planeV wd lo pn x px = x ∧ planeV wd lo pn y py = y)) ∧ ∃ tl, news' = tl ++ news) ∨ (r = .bool true ∧ ¬ place < 0 ∧ ¬ ((if la - fi < 0 then -(la - fi) else la - fi) + 1) ≤ place ∧ ¬(planeV wd lo pn x px = x ∧ planeV wd lo pn y py = y) ∧ ∃ om' wa ow' b u1 u2 u3, (md, om') ∈ news' ∧ om'.IsDictOf (PySem.intKind PySem.Challenge.rw_pq0454_01.row.prog w) (stored kvm key (.ref wa)) ∧ (wa, ow') ∈ news' ∧ ow'.IsDictOf (PySem.intKind PySem.Challenge.rw_pq0454_01.row.prog w) (stored [] place (.ref b)) ∧ (wa == sysModules) = false ∧ (b, tupO (.int wd u1) (.int (planeV wd lo pn x px) u2) (.int (planeV wd lo pn y py) u3)) ∈ news' ∧ (∀ q ∈ news, q.1 < wa) ∧ ∀ q ∈ news, q.1 ≠ md → q ∈ news')) := by
  unfold Con
  k_fill
  intro dp un gd cn cs a ccd cl outer A₀ base h₀ L m news s Q E B F X N T hk hpre hd hu hret
  obtain ⟨⟨hp1, hp2, hp3, hp4, hp5, hp6⟩, hpa⟩ := hpre
  have hcel : CelM w kvm key place net wd x y news := .inr ⟨hlm, hxb, hyb⟩
  have hst : st ≠ md := ne_of_dict N hp3 hdm hp1 (fun e => nomatch e)
  refine wpAny_call ?_
  k_dflt ktr_enter
  k_steps
  · refine hret _ _ _ _ (by assumption) (by assumption) ?_
    exact .inl ⟨rfl, .inl (by assumption), [], rfl⟩
  · refine hret _ _ _ _ (by assumption) (by assumption) ?_
    exact .inl ⟨rfl, .inr (.inl (by assumption)), [], rfl⟩
  · rename (_ = _ ∧ _ = _ ∧ _ = _) => q
    refine hret _ _ _ _ (by assumption) (by assumption) ?_
    exact .inl ⟨rfl, .inr (.inr q.2), _, (List.append_assoc _ _ _).symm⟩
  · rename (¬ (_ = _ ∧ _ = _ ∧ _ = _)) => q
    rename (∀ (a : Addr) (o2 : Obj), (a, o2) ∈ _ :: (_ ++ (_ ++ news)) → o2.cls ≠ _ → a ≠ _) => hdif
    rename (∀ q, q ∈ _ ++ (_ ++ news) → q.1 < _) => la1
    rename ((_, tupO (.int wd _) (.int (planeV wd lo pn x px) _) _) ∈ _) => hb
    have hmd := ne_of_above la1 (List.mem_append_right _ (List.mem_append_right _ hp3))
    have hbm := hdif _ _ (List.mem_cons_of_mem _ hb) tup_cls
    have hbd := (ne_of_above la1 hb).symm
    refine hret _ _ _ _ (by assumption) (by assumption) ?_
    refine .inr ⟨rfl, by assumption, by assumption, fun e => q ⟨rfl, e⟩, _, _, _, _, _, _, _, in_put (.head _) hmd.symm, by assumption, .head _, by assumption, by assumption, in_put (in_put (.tail _ hb) hbm) hbd, fun q hq => la1 q (List.mem_append_right _ (List.mem_append_right _ hq)), fun q hq hne => ?_⟩
    exact in_put (in_put (List.mem_cons_of_mem _ (List.mem_append_right _ (List.mem_append_right _ hq))) hne) (Nat.ne_of_lt (la1 q (List.mem_append_right _ (List.mem_append_right _ hq))))
end
section
local macro_rules | `(tactic| walk_at "no such place") => `(tactic| fail "none")
local macro_rules | `(tactic| k_mem) => `(tactic| ((with_reducible show _ ∈ drp _ _); refine' in_drp ?ha ?hb; (case ha => k_mem); (case hb => first | assumption | exact ne_of_above (by assumption) (by k_mem))))
local macro_rules | `(tactic| walk_at "subscriptTail") => `(tactic| (k_here; (with_reducible show wpAny _ _ (subscriptTail _ _ (Value.ref _) (Value.int _ _)) _ _ _); k_dflt (refine' kda_item (knd := PySem.intKind _ _) ?N ?m ?d (intKind_is _ _ _ _) ?hl ?_; (case N => k_asm); (case m => k_mem); (case d => assumption); (case hl => first | assumption | exact valueAt_self); k_whole)))
local macro_rules | `(tactic| walk_at "getItem ref int") => `(tactic| (k_here; k_dflt (refine' kdt_getItem (knd := PySem.intKind _ _) ?N ?m ?d (intKind_is _ _ _ _) ?hl ?_; (case N => k_asm); (case m => k_mem); (case d => assumption); (case hl => first | assumption | exact valueAt_self); k_whole)))
local macro_rules | `(tactic| walk_at "call ref") => `(tactic| (k_here; k_dflt (refine' con_use (con_word ?hs1 ?hs2 ?hs3 ?hk0 ?hk3 ?hsig ?hdm ?lom ?hnm ?hkd ?hwd ?hw1 ?hw4) ?B ?F ?X ?N ?T ?K ⟨⟨?m1, ?m2, ?m3, ?m4, ?m5, ?m6⟩, ?cel⟩ ?hd ?hu ?_; (case B => k_asm); (case F => k_asm); (case X => k_asm); (case N => k_asm); (case T => k_asm); (case K => first | exact rfl | assumption); (case hd => ktr_room); (case hu => ktr_units); (case m1 => k_mem); (case m2 => k_mem); (case hs1 => assumption); (case hs2 => assumption); (case hs3 => assumption); (case m3 => k_mem); (case m4 => k_mem); (case hsig => assumption); (case m5 => k_mem); (case m6 => k_mem); (case hdm => assumption); (case lom => assumption); (case hnm => assumption); (case hkd => assumption); (case hwd => assumption); (case hk0 => omega); (case hk3 => omega); (case hw1 => omega); (case hw4 => omega); (case cel => assumption); k_whole); intro r' news' h' tk' F' N' hpost; (obtain ⟨tl', b', u1', u2', u3', hn', hr', hb'⟩ := hpost); subst hn'; subst hr'; (try k_fold)))
local macro_rules | `(tactic| walk_at "call ref") => `(tactic| (k_here; k_dflt (refine' con_use (con_put ?a1 ?a2 ?a3 ?a4 ?a5 ?a6 ?a7 ?a8 ?a9 ?a10 ?a11 ?a12 ?a13 ?a14) ?B ?F ?X ?N ?T ?K ⟨?m1, ?m2⟩ ?hd ?hu ?_; (case B => k_asm); (case F => k_asm); (case X => k_asm); (case N => k_asm); (case T => k_asm); (case K => first | exact rfl | assumption); (case hd => ktr_room); (case hu => ktr_units); (case m1 => k_mem); (case m2 => k_mem); (case a1 => omega); (case a2 => omega); (case a3 => omega); (case a4 => omega); (case a5 => omega); (case a6 => omega); (case a7 => omega); (case a8 => omega); (case a9 => omega); (case a10 => omega); (case a11 => omega); (case a12 => omega); (case a13 => omega); (case a14 => omega); k_whole); intro r' news' h' tk' F' N' hpost; (obtain ⟨tl', b', u2', u3', hn', hr', hb'⟩ := hpost); subst hn'; subst hr'; (try k_fold)))
local macro_rules | `(tactic| walk_at "compareOp Eq ref ref") => `(tactic| (k_here; (with_reducible show wpAny _ _ (compareOp CmpOp.Eq (Value.ref _) (Value.ref _)) _ _ _); k_dflt (refine' eq_tup3 ?N ?ha ?hb ?hu ?_; (case N => k_asm); (case ha => k_mem); (case hb => k_mem); (case hu => ktr_units); k_whole)))
local macro_rules | `(tactic| walk_at "setItem ref int") => `(tactic| (k_here; k_dflt (refine' setitem_led ?F ?N ?hm ?hd ?hz ?_; (case F => k_asm); (case N => k_asm); (case hm => k_mem); (case hd => assumption); (case hz => first | omega | (simp; done)); k_whole); intro h' o' F' N' hd' hne'))
local macro_rules | `(tactic| walk_at "call ref") => `(tactic| (k_here; k_dflt (refine' con_use (con_words_i ?e1 ?e2 ?e3 ?e4 ?e5 ?e6) ?B ?F ?X ?N ?T ?K ⟨?m1, ?m2⟩ ?hd ?hu ?_; (case B => k_asm); (case F => k_asm); (case X => k_asm); (case N => k_asm); (case T => k_asm); (case K => first | exact rfl | assumption); (case hd => ktr_room); (case hu => ktr_units); (case m1 => k_mem); (case m2 => k_mem); (case e1 => assumption); (case e2 => assumption); (case e3 => omega); (case e4 => omega); (case e5 => omega); (case e6 => omega); k_whole); intro r' news' h' tk' F' N' hpost; (obtain ⟨hn', t', hr'⟩ := hpost); subst hn'; subst hr'; (try k_fold)))
local macro_rules | `(tactic| walk_at "compareOp NotIn int ref") => `(tactic| (k_here; k_dflt (refine' kdg_notin (knd := PySem.intKind _ _) ?N ?m ?d ?lo (intKind_is _ _ _ _) _ ?hb ?_; (case N => k_asm); (case m => k_mem); (case d => assumption); (case lo => assumption); (case hb => assumption); k_whole); (try dsimp only [Bool.not_true, Bool.not_false])))

set_option maxRecDepth 100000 in
set_option maxHeartbeats 8000000 in
theorem con_setM_b {w : World} {p : Program} {loose : List Str} {mean : ExcName → Option Value} {mg mb : Str → Option Value} {st sdx vd md sl : Addr} {es : List DictEntry} {ne nsl : Nat} {sigs : List Value} (hs1 : getL (Str.ofString "signals") es = some (some (.ref sl))) (hs2 : getL (Str.ofString "values") es = some (some (.ref vd))) (hs3 : getL (Str.ofString "memories") es = some (some (.ref md)))(hng : getL (Str.ofString "get") es = some none) (hnw : getL (Str.ofString "word") es = some none){sg sd : Addr} {es2 : List DictEntry} {ne2 : Nat} {key : Int} {tk0 : Tok} (hk0 : 0 ≤ key) (hk3 : key < 4) (hsig : sigs.toArray[key.toNat]? = some (.ref sg)){om : Obj} {kvm : List (Int × Value)} (hdm : om.IsDictOf (PySem.intKind PySem.Challenge.rw_pq0454_01.row.prog w) kvm) (lom : (md == sysModules) = false) {place : Int} {tkp : Tok}(hnm : getL (Str.ofString "is_net") es2 = some none) {net : Bool} {t5 : Tok} (hkd : getL (Str.ofString "kind") es2 = some (some (.str (kdS net) t5))) {wd : Int} {t6 : Tok} (hwd : getL (Str.ofString "width") es2 = some (some (.int wd t6))) (hw1 : 1 ≤ wd) (hw4 : wd ≤ 4){lo pn px py x y : Int} {pa : Addr} {t4 t8 t9 t7 : Tok} (hx : 0 ≤ x) (hx' : x < 16) (hy : 0 ≤ y) (hy' : y < 16) (hlo : -1 ≤ lo) (hlo' : lo ≤ 4) (hpn : 1 ≤ pn) (hpn' : pn ≤ 3) (hpx : 0 ≤ px) (hpx' : px < 8) (hpy : 0 ≤ py) (hpy' : py < 8)(hnws : getL (Str.ofString "words") es2 = some none) {fi la : Int} {t10 t11 : Tok} (hfi : getL (Str.ofString "first") es2 = some (some (.int fi t10))) (hla : getL (Str.ofString "last") es2 = some (some (.int la t11))) (h1 : 0 ≤ fi) (h2 : fi ≤ 4) (h3 : 0 ≤ la) (h4 : la ≤ 4) (hsm : @Ne Nat sdx md) (hlen : kvm.length ≤ 64) {wa : Addr} {ow : Obj} {kvw : List (Int × Value)} (hdw : ow.IsDictOf (PySem.intKind PySem.Challenge.rw_pq0454_01.row.prog w) kvw) (low : (wa == sysModules) = false) (hlm : valueAt kvm key = some (.ref wa)) (hlm2 : (valueAt kvm key).isSome = true) (hlen2 : kvw.length ≤ 64) :
    Con w p loose mean mg mb 105 9 300 [.ref st, .int key tk0, .int place tkp, .int lo t7, .ref pa] (fun news => ((st, instObj 108 sdx) ∈ news ∧ (sdx, dictOf es ne) ∈ news ∧ (md, om) ∈ news ∧ (sl, listOf sigs.toArray nsl) ∈ news ∧ (sg, instObj 171 sd) ∈ news ∧ (sd, dictOf es2 ne2) ∈ news) ∧ (wa, ow) ∈ news ∧ Cel kvw place net wd x y news ∧ (pa, tupO (.int pn t4) (.int px t8) (.int py t9)) ∈ news) (fun news r news' => (r = .bool false ∧ (place < 0 ∨ ((if la - fi < 0 then -(la - fi) else la - fi) + 1) ≤ place ∨ (planeV wd lo pn x px = x ∧ planeV wd lo pn y py = y)) ∧ ∃ tl, news' = tl ++ news) ∨ (r = .bool true ∧ ¬ place < 0 ∧ ¬ ((if la - fi < 0 then -(la - fi) else la - fi) + 1) ≤ place ∧ ¬(planeV wd lo pn x px = x ∧ planeV wd lo pn y py = y) ∧ ∃ ow' b u1 u2 u3, (wa, ow') ∈ news' ∧ ow'.IsDictOf (PySem.intKind PySem.Challenge.rw_pq0454_01.row.prog w) (stored kvw place (.ref b)) ∧ (b, tupO (.int wd u1) (.int (planeV wd lo pn x px) u2) (.int (planeV wd lo pn y py) u3)) ∈ news' ∧ ∀ q ∈ news, q.1 ≠ wa → q ∈ news')) := by
  unfold Con
  k_fill
  intro dp un gd cn cs a ccd cl outer A₀ base h₀ L m news s Q E B F X N T hk hpre hd hu hret
  obtain ⟨⟨hp1, hp2, hp3, hp4, hp5, hp6⟩, hp7, hcw, hpa⟩ := hpre
  have hcel : CelM w kvm key place net wd x y news := .inl ⟨wa, ow, kvw, hlm, hp7, hdw, low, hcw⟩
  refine wpAny_call ?_
  k_dflt ktr_enter
  k_steps
  · refine hret _ _ _ _ (by assumption) (by assumption) ?_
    exact .inl ⟨rfl, .inl (by assumption), [], rfl⟩
  · refine hret _ _ _ _ (by assumption) (by assumption) ?_
    exact .inl ⟨rfl, .inr (.inl (by assumption)), [], rfl⟩
  · rename (_ = _ ∧ _ = _ ∧ _ = _) => q
    refine hret _ _ _ _ (by assumption) (by assumption) ?_
    exact .inl ⟨rfl, .inr (.inr q.2), _, (List.append_assoc _ _ _).symm⟩
  · rename (¬ (_ = _ ∧ _ = _ ∧ _ = _)) => q
    rename (∀ (a : Addr) (o2 : Obj), (a, o2) ∈ _ ++ (_ ++ news) → o2.cls ≠ _ → a ≠ _) => hdif
    rename ((_, tupO (.int wd _) (.int (planeV wd lo pn x px) _) _) ∈ _) => hb
    refine hret _ _ _ _ (by assumption) (by assumption) ?_
    exact .inr ⟨rfl, by assumption, by assumption, fun e => q ⟨rfl, e⟩, _, _, _, _, _, .head _, by assumption, in_put hb (hdif _ _ hb tup_cls), fun q hq hne => in_put (List.mem_append_right _ (List.mem_append_right _ hq)) hne⟩
end
section
def StoIs (es : List DictEntry) (sl vd md : Addr) : Prop := getL (Str.ofString "signals") es = some (some (.ref sl)) ∧ getL (Str.ofString "values") es = some (some (.ref vd)) ∧ getL (Str.ofString "memories") es = some (some (.ref md)) ∧ getL (Str.ofString "get") es = some none ∧ getL (Str.ofString "word") es = some none ∧ getL (Str.ofString "set_bits") es = some none
theorem ne_all {d : Addr} {news : Led} (h : ∀ q ∈ news, q.1 < d) : ∀ q ∈ news, q.1 ≠ d := fun q hq => Nat.ne_of_lt (h q hq)
local macro_rules | `(tactic| k_all) => `(tactic| exact ne_all (by assumption))

set_option maxRecDepth 100000 in
set_option maxHeartbeats 8000000 in
theorem con_Store {w : World} {p : Program} {loose : List Str} {mean : ExcName → Option Value} {mg mb : Str → Option Value} {sl : Addr} :
    Con w p loose mean mg mb 108 3 60 [.ref sl] (fun news => True) (fun news r news' => ∃ st sdx es ne vd ov md om, r = .ref st ∧ StoIs es sl vd md ∧ (st, instObj 108 sdx) ∈ news' ∧ (sdx, dictOf es ne) ∈ news' ∧ (vd, ov) ∈ news' ∧ (md, om) ∈ news' ∧ ov.IsDictOf (PySem.intKind PySem.Challenge.rw_pq0454_01.row.prog w) [] ∧ om.IsDictOf (PySem.intKind PySem.Challenge.rw_pq0454_01.row.prog w) [] ∧ (vd == sysModules) = false ∧ (md == sysModules) = false ∧ (∀ q ∈ news, q ∈ news') ∧ (∀ q ∈ news, q.1 < sdx) ∧ @LT.lt Nat _ sdx st ∧ @LT.lt Nat _ st vd ∧ @LT.lt Nat _ vd md) := by
  unfold Con
  k_fill
  intro dp un gd cn cs a ccd cl outer A₀ base h₀ L m news s Q E B F X N T hk hpre hd hu hret
  k_dflt (refine' call_cls ?k1 ?k2 ?k3 ?k4 ?k5 ?k6 ?_; (case k1 => k_asm); (case k2 => k_asm); (case k3 => k_asm); (case k4 => k_is); (case k5 => k_is); (case k6 => k_is); k_whole)
  intro x' d' h' F' N' l1 l2
  k_lt2 l2
  k_dflt ktr_enter
  k_steps
  refine hret _ _ _ _ (by assumption) (by assumption) ?_
  refine' ⟨_, _, _, _, _, _, _, _, rfl, ⟨?g1, ?g2, ?g3, ?g4, ?g5, ?g6⟩, ?m1, ?m2, ?m3, ?m4, ?d1, ?d2, ?o1, ?o2, ?sub, l1, ?a1, ?a2, ?a3⟩
  case m1 => k_mem
  case m2 => k_mem
  case g1 => exact rfl
  case g2 => exact rfl
  case g3 => exact rfl
  case g4 => exact rfl
  case g5 => exact rfl
  case g6 => exact rfl
  case m3 => k_mem
  case m4 => k_mem
  case d1 => assumption
  case d2 => assumption
  case o1 => assumption
  case o2 => assumption
  case sub => (intro q hq; exact .tail _ (.tail _ (.tail _ (.tail _ hq))))
  case a1 => omega
  case a2 => omega
  case a3 => omega

set_option maxRecDepth 100000 in
set_option maxHeartbeats 8000000 in
theorem con_Design {w : World} {p : Program} {loose : List Str} {mean : ExcName → Option Value} {mg mb : Str → Option Value}  :
    Con w p loose mean mg mb 234 3 60 [] (fun news => True) (fun news r news' => ∃ ds dd es ne sl bp ob, r = .ref ds ∧ (getL (Str.ofString "signals") es = some (some (.ref sl)) ∧ getL (Str.ofString "by_path") es = some (some (.ref bp)) ∧ getL (Str.ofString "add_signal") es = some none) ∧ (ds, instObj 234 dd) ∈ news' ∧ (dd, dictOf es ne) ∈ news' ∧ (sl, listOf #[] 0) ∈ news' ∧ (bp, ob) ∈ news' ∧ ob.IsDictOf (PySem.strKind PySem.Challenge.rw_pq0454_01.row.prog w) [] ∧ (bp == sysModules) = false ∧ (∀ q ∈ news, q ∈ news') ∧ (∀ q ∈ news, q.1 < dd) ∧ @LT.lt Nat _ dd ds ∧ @LT.lt Nat _ ds sl ∧ @LT.lt Nat _ sl bp) := by
  unfold Con
  k_fill
  intro dp un gd cn cs a ccd cl outer A₀ base h₀ L m news s Q E B F X N T hk hpre hd hu hret
  k_dflt (refine' call_cls ?k1 ?k2 ?k3 ?k4 ?k5 ?k6 ?_; (case k1 => k_asm); (case k2 => k_asm); (case k3 => k_asm); (case k4 => k_is); (case k5 => k_is); (case k6 => k_is); k_whole)
  intro x' d' h' F' N' l1 l2
  k_lt2 l2
  k_dflt ktr_enter
  k_steps
  refine hret _ _ _ _ (by assumption) (by assumption) ?_
  refine' ⟨_, _, _, _, _, _, _, rfl, ⟨?g1, ?g2, ?g3⟩, ?m1, ?m2, ?m3, ?m4, ?d1, ?o1, ?sub, l1, ?a1, ?a2, ?a3⟩
  case m1 => k_mem
  case m2 => k_mem
  case g1 => exact rfl
  case g2 => exact rfl
  case g3 => exact rfl
  case m3 => k_mem
  case m4 => k_mem
  case d1 => assumption
  case o1 => assumption
  case sub => (intro q hq; repeat (first | exact hq | refine List.mem_cons_of_mem _ ?_))
  case a1 => omega
  case a2 => omega
  case a3 => omega
end
section
local macro_rules | `(tactic| walk_at "setItem ref str") => `(tactic| (k_here; k_dflt (refine' kda_set (knd := PySem.strKind _ _) ?F ?N ?U ?d (strKind_is _ _ _ _) ?z ?_; (case F => k_asm); (case N => k_asm); (case U => k_updF); (case d => assumption); (case z => rw [sizeLine_eq]; omega)); intro h' o' F' N' hd'; (try dsimp only at N')))
def SigIs (es : List DictEntry) (key : Int) (kd : Str) (wd : Int) : Prop := (∃ t, getL (Str.ofString "key") es = some (some (.int key t))) ∧ (∃ t, getL (Str.ofString "kind") es = some (some (.str kd t))) ∧ (∃ t, getL (Str.ofString "width") es = some (some (.int wd t))) ∧ getL (Str.ofString "is_net") es = some none ∧ getL (Str.ofString "is_memory") es = some none ∧ getL (Str.ofString "words") es = some none
end
section
local macro_rules | `(tactic| walk_at "setItem ref str") => `(tactic| (k_here; k_dflt (refine' kda_set (knd := PySem.strKind _ _) ?F ?N ?U ?d (strKind_is _ _ _ _) ?z ?_; (case F => k_asm); (case N => k_asm); (case U => k_updF); (case d => assumption); (case z => rw [sizeLine_eq]; omega)); intro h' o' F' N' hd'; (try dsimp only at N')))
local macro_rules | `(tactic| walk_at "call builtin:list.append") => `(tactic| (k_here; k_dflt (refine' append_K ?k1 ?k2 ?k3 ?_ ?z; (case k1 => k_asm); (case k2 => k_asm); (case k3 => k_upd); (case z => size_fits)); intro h' F' N'; (try k_sweep)))

def ConN (w : World) (p : Program) (loose : List Str) (mean : ExcName → Option Value) (mg mb : Str → Option Value) (f : Addr) (dep units : Nat) (vs : List Value) (P : Led) (Post : Value → Led → Prop) : Prop :=
  ∀ (dp un : Nat) (gd : Option (List Code)) (cn : Str) (cs : Scope) (a : Addr) (ccd : Value) (cl : List (Str × Addr)) (outer : List Env) (A₀ : Around) (base h₀ : Heap) (L : Addr) (m : Str → Option Value) (s : Shared)
    (Q E : Value → Shared → Prop),
    Below A₀ base outer h₀ → Fr h₀ L s.heap m → (Mine.hd.heap_39 w.params).In h₀ → News h₀ L s.heap P → Top p loose mean mg mb h₀ → cs.kind = .function → dp + dep < recursionLimit → un + units < cLine →
    (∀ r P' h' tk', Fr h₀ L h' m → News h₀ L h' P' → Stay s.heap h' P → (∀ q ∈ P', q.1 ∉ P.map (·.1) → s.heap.get? q.1 = none) → Post r P' → Q r { s with heap := h', toks := tk' }) →
    wpAny (model PySem.Challenge.rw_pq0454_01.row.prog w) (ktrTop dp un gd cn cs L a ccd cl outer) (call (.ref f) vs) Q E s
theorem fresh_of {s : Heap} {g1 : Heap} {L1 : Addr} {h' : Heap} {P P' : Led} (N : News g1 L1 h' P') (hk : Stay s g1 P) : ∀ q ∈ P', q.1 ∉ P.map (·.1) → s.get? q.1 = none := fun q hq hn => by
  cases hs : s.get? q.1 with
  | none => rfl
  | some o =>
    have := hk _ _ hs hn
    rw [(N q hq).2.2] at this
    cases this
set_option maxRecDepth 100000 in
set_option maxHeartbeats 8000000 in
theorem conN_addsig {w : World} {p : Program} {loose : List Str} {mean : ExcName → Option Value} {mg mb : Str → Option Value} {ds dd sl bp : Addr} {esd : List DictEntry} {ned nn : Nat} {its : Array Value} {ob : Obj} {kvb : List (Str × Value)} {path kd : Str} {wide msb lsb at9 : Int} {tp tk tw tm tl9 ta : Tok} (hd1 : getL (Str.ofString "signals") esd = some (some (.ref sl))) (hd2 : getL (Str.ofString "by_path") esd = some (some (.ref bp))) (hob : ob.IsDictOf (PySem.strKind PySem.Challenge.rw_pq0454_01.row.prog w) kvb) (lob : (bp == sysModules) = false) (hsz : its.size ≤ 64) (hkb : kvb.length ≤ 64) (hl1 : @LT.lt Nat _ dd ds) (hl2 : @LT.lt Nat _ ds sl) (hl3 : @LT.lt Nat _ sl bp) :
    ConN w p loose mean mg mb 196 5 100 [.ref ds, .str path tp, .str kd tk, .int wide tw, .bool false, .int msb tm, .int lsb tl9, .int at9 ta] [(ds, instObj 234 dd), (dd, dictOf esd ned), (sl, listOf its nn), (bp, ob)] (fun r P' => ∃ sg sd es2 ne2 ob' kvb' key, r = .ref sg ∧ (key = (its.size : Int)) ∧ SigIs es2 key kd wide ∧ getL (Str.ofString "first") es2 = some (some .none) ∧ getL (Str.ofString "last") es2 = some (some .none) ∧ es2.length ≤ 20 ∧ ob'.IsDictOf (PySem.strKind PySem.Challenge.rw_pq0454_01.row.prog w) kvb' ∧ kvb'.length ≤ kvb.length + 1 ∧ P' = [(sg, instObj 171 sd), (sd, dictOf es2 ne2), (ds, instObj 234 dd), (dd, dictOf esd ned), (sl, listOf (its.push (.ref sg)) (nn + 1)), (bp, ob')] ∧ @LT.lt Nat _ sd sg ∧ (∀ q ∈ [(ds, instObj 234 dd), (dd, dictOf esd ned), (sl, listOf its nn), (bp, ob)], @LT.lt Nat _ q.1 sd)) := by
  unfold ConN
  k_fill
  intro dp un gd cn cs a ccd cl outer A₀ base h₀ L m s Q E B F X N T hk hd hu hret
  refine wpAny_call ?_
  k_dflt (refine' code_defF ?k1 ?k2 ?k3 ?k4 ?k5 ?kA ?kF ?kK ?k6 ?k7 ?k8 ?k9 ?kB ?_ ?c2 ?c3 ?c4 ?c5; (case kA => exact rfl); (case kF => exact rfl); (case kK => assumption); (case k1 => k_asm); (case k2 => k_asm); (case k3 => k_asm); (case k4 => k_asm); (case k5 => k_asm); (case k6 => k_is); (case k7 => k_is); (case k8 => ktr_room); (case k9 => exact BindsTo.of_eq rfl); (case c5 => decide); (case kB => exact locs rfl); (case c2 => exact rfl); (case c3 => exact rfl); (case c4 => exact rfl); k_whole)
  intro g1 L1 h1 FG1 F1 N1 B1 X1 T1 hkeep
  (try dsimp only)
  (try k_fold)
  k_steps
  refine hret _ _ _ _ (by assumption) (by assumption) (fun b o e n => Fr.keep (h₀ := g1) (by assumption) b o (hkeep b o e n)) (fresh_of (by assumption) hkeep) ?_
  refine' ⟨_, _, _, _, _, _, _, rfl, rfl, ⟨⟨_, ?g1⟩, ⟨_, ?g2⟩, ⟨_, ?g3⟩, ?g4, ?g5, ?g6⟩, ?g7, ?g8, ?z1, by assumption, stored_length_le _ _ _, rfl, ?a1, ?a2⟩
  case g1 => exact rfl
  case g2 => exact rfl
  case g3 => exact rfl
  case g4 => exact rfl
  case g5 => exact rfl
  case g6 => exact rfl
  case g7 => exact rfl
  case g8 => exact rfl
  case z1 => exact Nat.le_of_ble_eq_true rfl
  case a1 => omega
  case a2 => (simp only [List.mem_cons, List.not_mem_nil, or_false]; rintro q (rfl | rfl | rfl | rfl) <;> (dsimp only; omega))
end
section
local macro_rules | `(tactic| k_mem) => `(tactic| ((with_reducible show _ ∈ _ ++ _); refine List.mem_append_right _ ?_; k_mem))
local macro_rules | `(tactic| passes_own) => `(tactic| assumption)
section

section
variable {prog : Program} {w : World} {h₀ h : Heap} {L d a : Addr} {m : Str → Option Value} {news : Led} {ks : List Int} {ok : Obj} {A : Around} {E : Value → Shared → Prop} {s : Shared} {n : Nat} {f : List Int → Option Value}
def HTab (prog : Program) (w : World) (news : Led) (d : Addr) (n : Nat) (f : List Int → Option Value) : Prop :=
  (d == sysModules) = false ∧ ∃ o es ep xs, (d, o) ∈ news ∧ o.ExactDict ∧ o.data = .dict es ep ∧ es.toList = xs.map (entryOfKey (tupleKind (PySem.intKind prog w))) ∧ (xs.map (·.1)).Nodup ∧
    (∀ x ∈ xs, ∃ ok, (x.2.1, ok) ∈ news ∧ TupKeyObj (PySem.intKind prog w) x.1 ok) ∧ xs.length ≤ n ∧ ∀ k, (atKey xs k).map (·.2) = f k
theorem HTab.dict (T : HTab prog w news d n f) (N : News h₀ L h news) : ∃ xs, h.DictOfH (tupleKind (PySem.intKind prog w)) d xs ∧ ∀ k, (atKey xs k).map (·.2) = f k := by
  obtain ⟨lo, o, es, ep, xs, hm, hc, hd, he, hn, hk, hl, hf⟩ := T
  exact ⟨xs, ⟨o, es, ep, N.get hm, hc, hd, he, fun x hx => let ⟨_, hmk, t⟩ := hk x hx; t.key (N.get hmk), hn⟩, hf⟩
theorem htab_ne (T : HTab prog w news d n f) (N : News h₀ L h news) {a : Addr} {o : Obj} (hm : (a, o) ∈ news) (hc : o.cls ≠ .type "dict") : a ≠ d := by
  obtain ⟨lo, od, es, ep, xs, hmd, hcd, _⟩ := T
  intro e
  subst e
  have h1 := (N _ hmd).1
  rw [(N _ hm).1] at h1
  exact hc ((congrArg Obj.cls (Option.some.inj h1)).trans hcd.1)
theorem HTab.keep {news' : Led} (T : HTab prog w news d n f) (hd : ∀ o, (d, o) ∈ news → (d, o) ∈ news') (hk : ∀ a o, (a, o) ∈ news → o.cls = .type "tuple" → (a, o) ∈ news') : HTab prog w news' d n f := by
  obtain ⟨lo, o, es, ep, xs, hm, hc, hdt, he, hn, hkk, hl, hf⟩ := T
  exact ⟨lo, o, es, ep, xs, hd _ hm, hc, hdt, he, hn, fun x hx => let ⟨okx, hmk, t⟩ := hkk x hx; ⟨okx, hk _ _ hmk t.1, t⟩, hl, hf⟩
theorem HTab.ofEmpty {K' : Type} [DecidableEq K'] {knd' : KeyKind prog w K'} {o : Obj} (hm : (d, o) ∈ news) (lo : (d == sysModules) = false) (hd : o.IsDictOf knd' []) : HTab prog w news d 0 (fun _ => none) := by
  obtain ⟨es, ep, hc, hdat, _, hp, _⟩ := hd
  have he : es.toList = [] := List.length_eq_zero_iff.mp hp.length
  exact ⟨lo, o, es, ep, [], hm, hc, hdat, he, List.nodup_nil, fun _ hx => by simp at hx, Nat.le_refl _, fun _ => rfl⟩
theorem htab_method {pl : Sem Bool} {Q : Value × List Value → Shared → Prop} (N : News h₀ L s.heap news) (T : HTab prog w news d n f) (h : Q (.builtin "dict.get", [.ref d]) s) :
    wpAny (model prog w) A (getMethod (.ref d) "get" pl) Q E s := by
  obtain ⟨xs, hd, hf⟩ := T.dict N
  exact getMethod_builtin hd.typeIs PySem.F.plainAttrs_dict PySem.F.slot_dict_get PySem.F.type_dict_get (dictOfH_noDict hd) h
theorem htab_get1 {Q : Value → Shared → Prop} (hu : A.units + 1 < cLine) (N : News h₀ L s.heap news) (T : HTab prog w news d n f) (hka : (a, ok) ∈ news) (tk : TupKeyObj (PySem.intKind prog w) ks ok)
    (h : Q ((f ks).getD .none) { s with toks := s.toks + (ks.length + 1) }) : wpAny (model prog w) A (call (.builtin "dict.get") [.ref d, .ref a]) Q E s := by
  obtain ⟨xs, hd, hf⟩ := T.dict N
  refine call_meetsIn PySem.F.slot_dict_get hd.typeIs PySem.F.entry_dict_get (PySem.F.args_dict_get_2 _ _) (meetsH_dict_get (tupleKind (PySem.intKind prog w)) d a T.1) ⟨tupleKind_room_in1 hu, ks, xs, tk.key (N.get hka), hd, ?_⟩
  rw [hf]; exact h
theorem htab_get2 {dflt : Value} {Q : Value → Shared → Prop} (hu : A.units + 1 < cLine) (N : News h₀ L s.heap news) (T : HTab prog w news d n f) (hka : (a, ok) ∈ news) (tk : TupKeyObj (PySem.intKind prog w) ks ok)
    (h : Q ((f ks).getD dflt) { s with toks := s.toks + (ks.length + 1) }) : wpAny (model prog w) A (call (.builtin "dict.get") [.ref d, .ref a, dflt]) Q E s := by
  obtain ⟨xs, hd, hf⟩ := T.dict N
  refine call_meetsIn PySem.F.slot_dict_get hd.typeIs PySem.F.entry_dict_get (PySem.F.args_dict_get_3 _ _ _) (meetsH_dict_get_default (tupleKind (PySem.intKind prog w)) d a T.1 dflt) ⟨tupleKind_room_in1 hu, ks, xs, tk.key (N.get hka), hd, ?_⟩
  rw [hf]; exact h
theorem htab_item {value slice : PySem.Expr} {v : Value} {Q : Value → Shared → Prop} (hu : A.units + 1 < cLine) (N : News h₀ L s.heap news) (T : HTab prog w news d n f) (hka : (a, ok) ∈ news) (tk : TupKeyObj (PySem.intKind prog w) ks ok)
    (hl : f ks = some v) (h : Q v { s with toks := s.toks + (ks.length + 1) })
    (hs : subscripted slice false (.ref d) (.ref a) = operate [.ref d, .ref a] (getItem (.ref d) (.ref a)) := by with_unfolding_all rfl) (hg : ∀ r, letTemporaryGo value (.ref d) r = pure () := by intro _; with_unfolding_all rfl) :
    wpAny (model prog w) A (subscriptTail value slice (.ref d) (.ref a)) Q E s := by
  obtain ⟨xs, hd, hf⟩ := T.dict N
  obtain ⟨p, hp, e⟩ := Option.map_eq_some_iff.mp ((hf ks).trans hl)
  exact subscriptTail_builtin hd.typeIs slot_dict_getitem.lookup (wpAny_getItem_heap (tupleKind_room_in1 hu) (tk.key (N.get hka)) hd hp (by rw [e]; exact h)) hs hg
theorem htab_set {v : Value} {Q : Unit → Shared → Prop} (hu : A.units + 1 < cLine) (F : Fr h₀ L s.heap m) (N : News h₀ L s.heap news) (T : HTab prog w news d n f) (hka : (a, ok) ∈ news) (tk : TupKeyObj (PySem.intKind prog w) ks ok) (hsz : n ≤ 64)
    (h : ∀ h' o', Fr h₀ L h' m → News h₀ L h' ((d, o') :: drp d news) → HTab prog w ((d, o') :: drp d news) d (n + 1) (fun k => if k = ks then some v else f k) → Q () { s with heap := h', toks := s.toks + (ks.length + 1) }) :
    wpAny (model prog w) A (setItem (.ref d) (.ref a) v) Q E s := by
  have hne : ∀ {b : Addr} {ob : Obj}, (b, ob) ∈ news → ob.cls ≠ .type "dict" → b ≠ d := fun hb hc => htab_ne T N hb hc
  obtain ⟨lo, o, es, ep, xs, hm, hc, hd, he, hn, hk, hl, hf⟩ := T
  have hD : s.heap.DictOfH (tupleKind (PySem.intKind prog w)) d xs := ⟨o, es, ep, N.get hm, hc, hd, he, fun x hx => let ⟨_, hmk, t⟩ := hk x hx; t.key (N.get hmk), hn⟩
  have htc : ∀ {k : List Int} {ob : Obj}, TupKeyObj (PySem.intKind prog w) k ob → ob.cls ≠ .type "dict" := fun t e => absurd (Value.type.inj (t.1.symm.trans e)) (by decide)
  refine wpAny_setItem_heap (hsz := by rw [sizeLine_eq]; omega) (knd := tupleKind (PySem.intKind prog w)) (tupleKind_room_in1 hu) (tk.key (N.get hka)) hD fun h' hm' hs => ?_
  obtain ⟨o', es', ep', ho', hc', hd', he', _, hn'⟩ := hm'
  have keep : ∀ p ∈ news, p.1 ≠ d → p ∈ (d, o') :: drp d news := fun p hp hpd => List.mem_cons_of_mem _ (mem_drp.mpr ⟨hp, hpd⟩)
  refine h h' o' (F.change hs (N _ hm).2.1 (N.fresh hm)) (fun q hq => ?_) ⟨lo, o', es', ep', storedH xs ks a v, .head _, hc', hd', he', hn', fun x hx => ?_, ?_, fun k => ?_⟩
  · rcases List.mem_cons.mp hq with rfl | hq
    · exact ⟨ho', (N _ hm).2⟩
    · obtain ⟨h1, h3⟩ := mem_drp.mp hq
      exact ⟨(hs.2 _ h3).trans (N _ h1).1, (N _ h1).2⟩
  · rcases mem_storedH hx with ⟨y, hy, e1, e2⟩ | ⟨e1, e2⟩
    · obtain ⟨oky, hmk, t⟩ := hk y hy
      exact ⟨oky, by rw [e2]; exact keep _ hmk (hne hmk (htc t)), by rw [e1]; exact t⟩
    · exact ⟨ok, by rw [e2]; exact keep _ hka (hne hka (htc tk)), by rw [e1]; exact tk⟩
  · unfold storedH
    split
    · rw [List.length_map]; omega
    · rw [List.length_append]; simp; omega
  · rw [← valueAt_kvsOf, kvsOf_storedH, valueAt_stored, valueAt_kvsOf, hf]
end

theorem news_stay {h₀ h h' : Heap} {L : Addr} {news P P' : Led} (N : News h₀ L h news) (st : Stay h h' P) (N' : News h₀ L h' P') : News h₀ L h' (P' ++ news.filter (fun q => decide (q.1 ∉ P.map (·.1)))) := by
  intro q hq
  rcases List.mem_append.mp hq with hq | hq
  · exact N' q hq
  · obtain ⟨h1, h2⟩ := List.mem_filter.mp hq
    exact ⟨st _ _ (N q h1).1 (of_decide_eq_true h2), (N q h1).2⟩

def Src (src lst : Addr) (news : Led) : Prop := ∃ cur seed t1 t2 n1 vs ns n2, (src, listOf #[.ref lst, .int cur t1, .int seed t2] n1) ∈ news ∧ (lst, listOf vs.toArray n2) ∈ news ∧ IntsAre vs ns ∧ vs.length ≤ 64 ∧ 0 ≤ cur ∧ 0 ≤ seed ∧ seed < 2147483563
theorem take_src {w : World} {p : Program} {loose : List Str} {mean : ExcName → Option Value} {mg mb : Str → Option Value} {src lst : Addr} {most : Int} {t4 : Tok}
    {dp un : Nat} {gd : Option (List Code)} {cn : Str} {cs : Scope} {a : Addr} {ccd : Value} {cl : List (Str × Addr)} {outer : List Env} {A₀ : Around} {base h₀ : Heap} {L : Addr} {m : Str → Option Value} {news : Led} {s : Shared} {Q E : Value → Shared → Prop}
    (S : Src src lst news) (hne : @Ne Nat src lst) (B : Below A₀ base outer h₀) (F : Fr h₀ L s.heap m) (X : (Mine.hd.heap_39 w.params).In h₀) (N : News h₀ L s.heap news) (T : Top p loose mean mg mb h₀) (hk : cs.kind = .function) (hd : dp + 3 < recursionLimit) (hu : un + 160 < cLine)
    (hm : 1 ≤ most) (hm2 : most ≤ 64)
    (ret : ∀ found u3 news' h' tk', Fr h₀ L h' m → News h₀ L h' news' → Src src lst news' → (∀ q ∈ news, q.1 ≠ src → q.1 ≠ lst → q ∈ news') → 0 ≤ found → found < most → Q (.int found u3) { s with heap := h', toks := tk' }) :
    wpAny (model PySem.Challenge.rw_pq0454_01.row.prog w) (ktrTop dp un gd cn cs L a ccd cl outer) (call (.ref 245) [.ref src, .int most t4]) Q E s := by
  obtain ⟨cur, seed, t1, t2, n1, vs, ns, n2, m1, m2, hv, hlen, hc, hs, hs2⟩ := S
  refine conF_take (t1 := t1) (t2 := t2) (n1 := n1) (n2 := n2) hv hlen hc hs hs2 hm hm2 hne hne.symm _ _ _ _ _ _ _ _ _ _ _ _ _ _ _ _ _ B F X (fun q hq => ?_) T hk hd hu ?_
  · simp only [List.mem_cons, List.not_mem_nil, or_false] at hq
    rcases hq with rfl | rfl
    · exact N _ m1
    · exact N _ m2
  · rintro r P' h' tk' F' N' st ⟨found, cur', seed', u1, u2, u3, vs', ns', k1, k2, tl, rfl, h1, h2, h3, h4, h5, h6, h7, rfl⟩
    refine ret found u3 _ h' tk' F' (news_stay N st N') ⟨cur', seed', u1, u2, k1, vs', ns', k2, ?_, ?_, h6, h7, h3, h4, h5⟩ (fun q hq a1 a2 => ?_) h1 h2
    · exact List.mem_append_left _ (List.mem_append_right _ (.head _))
    · exact List.mem_append_left _ (List.mem_append_right _ (.tail _ (.head _)))
    · refine List.mem_append_right _ (List.mem_filter.mpr ⟨hq, decide_eq_true ?_⟩)
      simp only [List.map_cons, List.map_nil, List.mem_cons, List.not_mem_nil, or_false]
      rintro (e | e)
      · exact a1 e
      · exact a2 e
end
section

noncomputable def forB : Stmt → List Stmt
  | .For _ _ b _ _ => b
  | _ => []
noncomputable def stB (b : List Stmt) (i : Nat) : List Stmt := match b[i]? with | some x => forB x | none => []
noncomputable def lastFn : List Stmt → List Stmt × Scope
  | [] => ([], { kind := .function, names := [], isGenerator := false, isCoroutine := false })
  | [x] => match x with
    | .FunctionDef _ _ b _ _ _ sc _ _ _ => (b, sc)
    | _ => ([], { kind := .function, names := [], isGenerator := false, isCoroutine := false })
  | _ :: r => lastFn r
set_option maxRecDepth 100000 in
noncomputable def lawP : { b : List Stmt × Scope // lastFn Mine.hd.view_39.main.body = b } := by
  refine' ⟨?b, ?h⟩
  case h => (dsimp only [Mine.hd.view_39, lastFn]; exact rfl)

end
section

def DueAt (f : List Int → Option Value) (ks C D : List Int) (news : Led) : Prop := (∃ row vs nn, f ks = some (.ref row) ∧ (row, listOf vs.toArray nn) ∈ news ∧ IntsAre vs C) ∨ (f ks = none ∧ C = D)
theorem DueAt.sub {f : List Int → Option Value} {ks C D : List Int} {news news' : Led} (h : DueAt f ks C D news) (hs : ∀ q ∈ news, q ∈ news') : DueAt f ks C D news' := by
  rcases h with ⟨row, vs, nn, h1, h2, h3⟩ | h
  · exact .inl ⟨row, vs, nn, h1, hs _ h2, h3⟩
  · exact .inr h
theorem htab_due {prog : Program} {w : World} {h₀ : Heap} {L d a dd : Addr} {news : Led} {ks C D : List Int} {ok : Obj} {A : Around} {E : Value → Shared → Prop} {s : Shared} {n n0 : Nat} {f : List Int → Option Value} {vs0 : List Value} {Q : Value → Shared → Prop} (hu : A.units + 1 < cLine) (N : News h₀ L s.heap news) (T : HTab prog w news d n f) (hka : (a, ok) ∈ news) (tk : TupKeyObj (PySem.intKind prog w) ks ok)
    (hr : DueAt f ks C D news) (hdd : (dd, listOf vs0.toArray n0) ∈ news) (hi0 : IntsAre vs0 D) (h : ∀ b vs nn, (b, listOf vs.toArray nn) ∈ news → IntsAre vs C → Q (.ref b) { s with toks := s.toks + (ks.length + 1) }) : wpAny (model prog w) A (call (.builtin "dict.get") [.ref d, .ref a, .ref dd]) Q E s := by
  refine htab_get2 hu N T hka tk ?_
  rcases hr with ⟨row, vs, nn, h1, h2, h3⟩ | ⟨h1, h2⟩
  · rw [h1]; exact h _ _ _ h2 h3
  · subst h2; rw [h1]; exact h _ _ _ hdd hi0
def Off (ns : List Str) (m m' : Str → Option Value) : Prop := ∀ y, y ∉ ns → m' y = m y
theorem Off.trans {ns : List Str} {m m' m'' : Str → Option Value} (h : Off ns m m') (h' : Off ns m' m'') : Off ns m m'' := fun y hy => (h' y hy).trans (h y hy)
theorem Off.wide {ns ns' : List Str} {m m' : Str → Option Value} (h : Off ns m m') (hs : ∀ y ∈ ns, y ∈ ns') : Off ns' m m' := fun y hy => h y fun hn => hy (hs y hn)
theorem Off.refl {ns : List Str} {m : Str → Option Value} : Off ns m m := fun _ _ => rfl
theorem Off.one {ns : List Str} {m m' : Str → Option Value} {x : Str} {v : Value} (h : Off ns m m') (hx : x ∈ ns) : Off ns m (fun y => if y = x then some v else m' y) := by
  intro y hy
  have hn : ¬ y = x := fun e => hy (e ▸ hx)
  show (if y = x then _ else _) = _
  rw [if_neg hn]
  exact h y hy
theorem ne_ints_same {prog : Program} {w : World} {h₀ : Heap} {L a b : Addr} {news : Led} {A : Around} {E : Value → Shared → Prop} {s : Shared} {xs ys : List Value} {ns : List Int} {n1 n2 : Nat} {Q : Value → Shared → Prop} (N : News h₀ L s.heap news) (ha : (a, listOf xs.toArray n1) ∈ news) (hb : (b, listOf ys.toArray n2) ∈ news)
    (hi : IntsAre xs ns) (hj : IntsAre ys ns) (hu : A.units + 64 < cLine) (h : Q (.bool false) s) : wpAny (model prog w) A (compareOp .NotEq (.ref a) (.ref b)) Q E s :=
  ke_ne_ints (N.isList ha) (N.isList hb) hi hj hu (by rw [decide_eq_true rfl]; exact h)
theorem Cel.sub {kvs : List (Int × Value)} {key : Int} {net : Bool} {wd x y : Int} {news news' : Led} (C : Cel kvs key net wd x y news) (h : ∀ q ∈ news, q.2.cls = .type "tuple" → q ∈ news') : Cel kvs key net wd x y news' := by
  rcases C with ⟨ta, u1, u2, u3, hl, hm⟩ | ⟨hl, e1, e2⟩
  · exact .inl ⟨ta, u1, u2, u3, hl, h _ hm rfl⟩
  · exact .inr ⟨hl, e1, e2⟩
theorem CelM.sub {w : World} {kvm : List (Int × Value)} {key place : Int} {net : Bool} {wd x y : Int} {news news' : Led} (C : CelM w kvm key place net wd x y news) (h : ∀ q ∈ news, q ∈ news') : CelM w kvm key place net wd x y news' := by
  rcases C with ⟨wa, ow, kvw, hl, hm, hd, lo, C⟩ | ⟨hl, e1, e2⟩
  · exact .inl ⟨wa, ow, kvw, hl, h _ hm, hd, lo, C.sub fun q hq _ => h q hq⟩
  · exact .inr ⟨hl, e1, e2⟩
theorem Cel.subs {kvs : List (Int × Value)} {key : Int} {net : Bool} {wd x y : Int} {news news' : Led} (C : Cel kvs key net wd x y news) (h : ∀ q ∈ news, q ∈ news') : Cel kvs key net wd x y news' := C.sub fun q hq _ => h q hq
theorem tk2 {prog : Program} {w : World} (a b : Int) (t u : Tok) : TupKeyObj (PySem.intKind prog w) [a, b] { cls := .type "tuple", data := .seq #[.int a t, .int b u] } := ⟨rfl, _, _, rfl, .cons (intKind_is _ _ _ _) (.cons (intKind_is _ _ _ _) .nil)⟩
theorem htab_get2x {prog : Program} {w : World} {h₀ : Heap} {L d a : Addr} {news : Led} {ks : List Int} {ok : Obj} {A : Around} {E : Value → Shared → Prop} {s : Shared} {n : Nat} {f : List Int → Option Value} {dflt : Value} {x : Option Value} {Q : Value → Shared → Prop} (hu : A.units + 1 < cLine) (N : News h₀ L s.heap news) (T : HTab prog w news d n f) (hka : (a, ok) ∈ news) (tk : TupKeyObj (PySem.intKind prog w) ks ok)
    (hl : f ks = x) (h : Q (x.getD dflt) { s with toks := s.toks + (ks.length + 1) }) : wpAny (model prog w) A (call (.builtin "dict.get") [.ref d, .ref a, dflt]) Q E s := htab_get2 hu N T hka tk (by rw [hl]; exact h)
set_option maxRecDepth 100000 in
noncomputable def spotB : { b : List Stmt // stB (stB (stB lawP.1.1 8) 0) 1 = b } := by
  refine' ⟨?b, ?h⟩
  case h => (dsimp only [lawP, stB, forB, List.getElem?_cons_succ, List.getElem?_cons_zero]; exact rfl)
theorem HTab.sub {prog : Program} {w : World} {news news' : Led} {d : Addr} {n : Nat} {f : List Int → Option Value} (T : HTab prog w news d n f) (h : ∀ q ∈ news, q ∈ news') : HTab prog w news' d n f := T.keep (fun _ hm => h _ hm) fun _ _ hm _ => h _ hm
end
section
local macro_rules | `(tactic| walk_at "getMethod ref") => `(tactic| (k_here; (with_reducible show wpAny _ _ (getMethod (Value.ref _) (Str.ofString "get") _) _ _ _); k_dflt (refine' htab_method ?N ?T ?_; (case N => k_asm); (case T => exact HTab.sub (by assumption) (by intro q hq; repeat (first | exact hq | refine List.mem_cons_of_mem _ ?_ | refine List.mem_append_right _ ?_))); k_whole)))
local macro_rules | `(tactic| walk_at "call builtin:dict.get") => `(tactic| (k_here; k_dflt (refine' htab_due ?hu ?N ?T ?ka (tk2 _ _ _ _) (DueAt.sub ?hr ?hs) ?hdd ?hi0 ?_; (case hu => ktr_units); (case N => k_asm); (case T => exact HTab.sub (by assumption) (by intro q hq; repeat (first | exact hq | refine List.mem_cons_of_mem _ ?_ | refine List.mem_append_right _ ?_))); (case ka => k_mem); (case hr => assumption); (case hs => (intro q hq; repeat (first | exact hq | refine List.mem_cons_of_mem _ ?_ | refine List.mem_append_right _ ?_))); (case hdd => k_mem); (case hi0 => assumption); k_whole); intro due' dvs' dnn' hdue' hdi'))
local macro_rules | `(tactic| walk_at "call ref") => `(tactic| (k_here; k_dflt (refine' con_use (con_word ?hs1 ?hs2 ?hs3 ?hk0 ?hk3 ?hsig ?hdm ?lom ?hnm ?hkd ?hwd ?hw1 ?hw4) ?B ?F ?X ?N ?T ?K ⟨⟨?m1, ?m2, ?m3, ?m4, ?m5, ?m6⟩, ?cel⟩ ?hd ?hu ?_; (case B => k_asm); (case F => k_asm); (case X => k_asm); (case N => k_asm); (case T => k_asm); (case K => first | exact rfl | assumption); (case hd => ktr_room); (case hu => ktr_units); (case m1 => k_mem); (case m2 => k_mem); (case hs1 => assumption); (case hs2 => assumption); (case hs3 => assumption); (case m3 => k_mem); (case m4 => k_mem); (case hsig => assumption); (case m5 => k_mem); (case m6 => k_mem); (case hdm => assumption); (case lom => assumption); (case hnm => assumption); (case hkd => assumption); (case hwd => assumption); (case hk0 => omega); (case hk3 => omega); (case hw1 => omega); (case hw4 => omega); (case cel => exact CelM.sub (by assumption) (by intro q hq; repeat (first | exact hq | refine List.mem_cons_of_mem _ ?_ | refine List.mem_append_right _ ?_))); k_whole); intro r' news' h' tk' F' N' hpost; (obtain ⟨tl', b', u1', u2', u3', hn', hr', hb'⟩ := hpost); subst hn'; subst hr'; (try k_fold)))
local macro_rules | `(tactic| walk_at "call ref") => `(tactic| (k_here; k_dflt (refine' con_use (con_ismem_i ?hk1) ?B ?F ?X ?N ?T ?K ?hp ?hd ?hu ?_; (case B => k_asm); (case F => k_asm); (case X => k_asm); (case N => k_asm); (case T => k_asm); (case K => first | exact rfl | assumption); (case hd => ktr_room); (case hu => ktr_units); (case hp => exact ⟨by k_mem, by k_mem⟩); (case hk1 => assumption); k_whole); intro r' news' h' tk' F' N' hpost; (obtain ⟨hn', hr'⟩ := hpost); subst hn'; subst hr'; (try k_fold)))
local macro_rules | `(tactic| walk_at "call ref") => `(tactic| (k_here; k_dflt (refine' con_use (con_codes ?hn ?hn4 ?hx ?hx2 ?hy ?hy2) ?B ?F ?X ?N ?T ?K ?m1 ?hd ?hu ?_; (case B => k_asm); (case F => k_asm); (case X => k_asm); (case N => k_asm); (case T => k_asm); (case K => first | exact rfl | assumption); (case hd => ktr_room); (case hu => ktr_units); (case m1 => k_mem); (case hn => omega); (case hn4 => omega); (case hx => omega); (case hx2 => omega); (case hy => omega); (case hy2 => omega); k_whole); intro r' news' h' tk' F' N' hpost; (obtain ⟨ra', vs', nn', hr', hn', hi'⟩ := hpost); subst hn'; subst hr'; (try k_fold)))
local macro_rules | `(tactic| walk_at "compareOp NotEq ref ref") => `(tactic| (k_here; (with_reducible show wpAny _ _ (compareOp CmpOp.NotEq (Value.ref _) (Value.ref _)) _ _ _); k_dflt (refine' ne_ints_same ?N ?ha ?hb ?hi ?hj ?hu ?_; (case N => k_asm); (case ha => k_mem); (case hb => k_mem); (case hi => (first | with_reducible assumption | (rename (codesV _ _ _ = _) => he9; rw [he9]; assumption))); (case hj => (first | with_reducible assumption | (rename (codesV _ _ _ = _) => he9; rw [he9]; assumption))); (case hu => ktr_units); k_whole)))

set_option maxRecDepth 100000 in
set_option maxHeartbeats 8000000 in
theorem spotM {w : World} {p : Program} {loose : List Str} {mean : ExcName → Option Value} {mg mb : Str → Option Value} {qual : Str}
    {dp un : Nat} {gd : Option (List Code)} {a : Addr} {ccd : Value} {ca : Addr} {outer : List Env} {A₀ : Around} {base h₀ : Heap} {L : Addr} {s : Shared} {Q : Flow → Shared → Prop} {E : Value → Shared → Prop} {news : Led}
    (B : Below A₀ base outer h₀) (X : (Mine.hd.heap_39 w.params).In h₀) (N : News h₀ L s.heap news) (T : Top p loose mean mg mb h₀) (hd : dp + 50 < recursionLimit) (hu : un + 600 < cLine)
   {u : Str → Option Value} {st hh sg sd sdx vd md sl : Addr} {es es2 : List DictEntry} {ne ne2 nsl nh : Nat} {sigs : List Value} {key wd spot blank : Int} {tb ts : Tok} {net : Bool} {f : List Int → Option Value}
   (hst : (st, instObj 108 sdx) ∈ news) (hsx : (sdx, dictOf es ne) ∈ news) (hs1 : StoIs es sl vd md) (hsl : (sl, listOf sigs.toArray nsl) ∈ news) (hsig : sigs.toArray[key.toNat]? = some (.ref sg))(hsg : (sg, instObj 171 sd) ∈ news) (hsd : (sd, dictOf es2 ne2) ∈ news) (hsi : SigIs es2 key (kdS net) wd) (hw1 : 1 ≤ wd) (hw4 : wd ≤ 4) (hk0 : 0 ≤ key) (hk3 : key < 4)
   {om : Obj} {kvm : List (Int × Value)} (hmd : (md, om) ∈ news) (hdm : om.IsDictOf (PySem.intKind PySem.Challenge.rw_pq0454_01.row.prog w) kvm) (lom : (md == sysModules) = false)
   {fi la : Int} {tf tl : Tok} (hfi : getL (Str.ofString "first") es2 = some (some (.int fi tf))) {x y : Int} (hc : CelM w kvm key spot net wd x y news) (hx : 0 ≤ x) (hx' : x < 16) (hy : 0 ≤ y) (hy' : y < 16)
   (T1 : HTab PySem.Challenge.rw_pq0454_01.row.prog w news hh nh f) (hrow : DueAt f [key, spot] (codesV wd x y) (List.replicate wd.toNat [blank]).flatten news)
   (F : Fr h₀ L s.heap (fun y => if y = Str.ofString "spot" then some (.int spot ts) else if y = Str.ofString "store" then some (.ref st) else if y = Str.ofString "held" then some (.ref hh) else if y = Str.ofString "signal" then some (.ref sg) else if y = Str.ofString "blank" then some (.int blank tb) else u y))
   (hE : PassesOwn (model PySem.Challenge.rw_pq0454_01.row.prog w) (ktrTop dp un gd qual lawP.1.2 L a ccd [(Str.ofString "source", ca)] outer) (envX qual lawP.1.2 L a ccd [(Str.ofString "source", ca)]) E)
   (ret : ∀ m' news' h' tk', Fr h₀ L h' m' → News h₀ L h' news' → (∀ q ∈ news, q ∈ news') → Off [Str.ofString "due", Str.ofString "found"] ((fun y => if y = Str.ofString "spot" then some (.int spot ts) else if y = Str.ofString "store" then some (.ref st) else if y = Str.ofString "held" then some (.ref hh) else if y = Str.ofString "signal" then some (.ref sg) else if y = Str.ofString "blank" then some (.int blank tb) else u y)) m' → Q .next { s with heap := h', toks := tk' }) :
   wpAny (model PySem.Challenge.rw_pq0454_01.row.prog w) (ktrTop dp un gd qual lawP.1.2 L a ccd [(Str.ofString "source", ca)] outer) (execs spotB.1 (envX qual lawP.1.2 L a ccd [(Str.ofString "source", ca)])) Q E s := by
  dsimp only [spotB, lawP] at F hE ⊢
  revert X
  k_fill
  intro X
  obtain ⟨hs1, hs2, hs3, hs4, hs5, hs6⟩ := hs1
  obtain ⟨⟨tk0, hkey⟩, ⟨tkd, hkd⟩, ⟨twd, hwd⟩, hnm, him, hnw⟩ := hsi
  k_steps
  refine ret _ _ _ _ (by assumption) (by assumption) (by intro q hq; repeat (first | exact hq | refine List.mem_cons_of_mem _ ?_ | refine List.mem_append_right _ ?_)) (by intro y hy; simp only [List.mem_cons, List.not_mem_nil, or_false, not_or] at hy; simp only [hy, if_false])
end
section
local macro_rules | `(tactic| walk_at "getMethod ref") => `(tactic| (k_here; (with_reducible show wpAny _ _ (getMethod (Value.ref _) (Str.ofString "get") _) _ _ _); k_dflt (refine' htab_method ?N ?T ?_; (case N => k_asm); (case T => exact HTab.sub (by assumption) (by intro q hq; repeat (first | exact hq | refine List.mem_cons_of_mem _ ?_ | refine List.mem_append_right _ ?_))); k_whole)))
local macro_rules | `(tactic| walk_at "call builtin:dict.get") => `(tactic| (k_here; k_dflt (refine' htab_get2x ?hu ?N ?T ?ka (tk2 _ _ _ _) ?hl ?_; (case hu => ktr_units); (case N => k_asm); (case T => exact HTab.sub (by assumption) (by intro q hq; repeat (first | exact hq | refine List.mem_cons_of_mem _ ?_ | refine List.mem_append_right _ ?_))); (case ka => k_mem); (case hl => exact rfl); k_whole)))
local macro_rules | `(tactic| walk_at "subscriptTail") => `(tactic| (k_here; (with_reducible show wpAny _ _ (subscriptTail _ _ (Value.ref _) (Value.ref _)) _ _ _); k_dflt (refine' htab_item ?hu ?N ?T ?ka (tk2 _ _ _ _) ?hl ?_; (case hu => ktr_units); (case N => k_asm); (case T => exact HTab.sub (by assumption) (by intro q hq; repeat (first | exact hq | refine List.mem_cons_of_mem _ ?_ | refine List.mem_append_right _ ?_))); (case ka => k_mem); (case hl => assumption); k_whole)))
local macro_rules | `(tactic| walk_at "call ref") => `(tactic| (k_here; k_dflt (refine' con_use (con_get ?hs1 ?hs2 ?hs3 ?hk0 ?hk3 ?hsig ?hdv ?lov ?hnm ?hkd ?hwd ?hw1 ?hw4) ?B ?F ?X ?N ?T ?K ⟨⟨?m1, ?m2, ?m3, ?m4, ?m5, ?m6⟩, ?cel⟩ ?hd ?hu ?_; (case B => k_asm); (case F => k_asm); (case X => k_asm); (case N => k_asm); (case T => k_asm); (case K => first | exact rfl | assumption); (case hd => ktr_room); (case hu => ktr_units); (case m1 => k_mem); (case m2 => k_mem); (case hs1 => assumption); (case hs2 => assumption); (case hs3 => assumption); (case m3 => k_mem); (case m4 => k_mem); (case hsig => assumption); (case m5 => k_mem); (case m6 => k_mem); (case hdv => assumption); (case lov => assumption); (case hnm => assumption); (case hkd => assumption); (case hwd => assumption); (case hk0 => omega); (case hk3 => omega); (case hw1 => omega); (case hw4 => omega); (case cel => exact Cel.subs (by assumption) (by intro q hq; repeat (first | exact hq | refine List.mem_cons_of_mem _ ?_ | refine List.mem_append_right _ ?_))); k_whole); intro r' news' h' tk' F' N' hpost; (obtain ⟨tl', b', u1', u2', u3', hn', hr', hb'⟩ := hpost); subst hn'; subst hr'; (try k_fold)))
local macro_rules | `(tactic| walk_at "call ref") => `(tactic| (k_here; k_dflt (refine' con_use (con_ismem_n ?hk1) ?B ?F ?X ?N ?T ?K ?hp ?hd ?hu ?_; (case B => k_asm); (case F => k_asm); (case X => k_asm); (case N => k_asm); (case T => k_asm); (case K => first | exact rfl | assumption); (case hd => ktr_room); (case hu => ktr_units); (case hp => exact ⟨by k_mem, by k_mem⟩); (case hk1 => assumption); k_whole); intro r' news' h' tk' F' N' hpost; (obtain ⟨hn', hr'⟩ := hpost); subst hn'; subst hr'; (try k_fold)))
local macro_rules | `(tactic| walk_at "call ref") => `(tactic| (k_here; k_dflt (refine' con_use (con_codes ?hn ?hn4 ?hx ?hx2 ?hy ?hy2) ?B ?F ?X ?N ?T ?K ?m1 ?hd ?hu ?_; (case B => k_asm); (case F => k_asm); (case X => k_asm); (case N => k_asm); (case T => k_asm); (case K => first | exact rfl | assumption); (case hd => ktr_room); (case hu => ktr_units); (case m1 => k_mem); (case hn => omega); (case hn4 => omega); (case hx => omega); (case hx2 => omega); (case hy => omega); (case hy2 => omega); k_whole); intro r' news' h' tk' F' N' hpost; (obtain ⟨ra', vs', nn', hr', hn', hi'⟩ := hpost); subst hn'; subst hr'; (try k_fold)))
local macro_rules | `(tactic| walk_at "compareOp NotEq ref ref") => `(tactic| (k_here; (with_reducible show wpAny _ _ (compareOp CmpOp.NotEq (Value.ref _) (Value.ref _)) _ _ _); k_dflt (refine' ne_ints_same ?N ?ha ?hb ?hi ?hj ?hu ?_; (case N => k_asm); (case ha => k_mem); (case hb => k_mem); (case hi => (first | with_reducible assumption | (rename (codesV _ _ _ = _) => he9; rw [he9]; assumption))); (case hj => (first | with_reducible assumption | (rename (codesV _ _ _ = _) => he9; rw [he9]; assumption))); (case hu => ktr_units); k_whole)))

set_option maxRecDepth 100000 in
set_option maxHeartbeats 8000000 in
theorem spotP {w : World} {p : Program} {loose : List Str} {mean : ExcName → Option Value} {mg mb : Str → Option Value} {qual : Str}
    {dp un : Nat} {gd : Option (List Code)} {a : Addr} {ccd : Value} {ca : Addr} {outer : List Env} {A₀ : Around} {base h₀ : Heap} {L : Addr} {s : Shared} {Q : Flow → Shared → Prop} {E : Value → Shared → Prop} {news : Led}
    (B : Below A₀ base outer h₀) (X : (Mine.hd.heap_39 w.params).In h₀) (N : News h₀ L s.heap news) (T : Top p loose mean mg mb h₀) (hd : dp + 50 < recursionLimit) (hu : un + 600 < cLine)
   {u : Str → Option Value} {st hh sg sd sdx vd md sl : Addr} {es es2 : List DictEntry} {ne ne2 nsl nh : Nat} {sigs : List Value} {key wd spot blank : Int} {tb ts : Tok} {net : Bool} {f : List Int → Option Value}
   (hst : (st, instObj 108 sdx) ∈ news) (hsx : (sdx, dictOf es ne) ∈ news) (hs1 : StoIs es sl vd md) (hsl : (sl, listOf sigs.toArray nsl) ∈ news) (hsig : sigs.toArray[key.toNat]? = some (.ref sg))(hsg : (sg, instObj 171 sd) ∈ news) (hsd : (sd, dictOf es2 ne2) ∈ news) (hsi : SigIs es2 key (kdS net) wd) (hw1 : 1 ≤ wd) (hw4 : wd ≤ 4) (hk0 : 0 ≤ key) (hk3 : key < 4)
   {ov : Obj} {kvs : List (Int × Value)} (hmd : (vd, ov) ∈ news) (hdm : ov.IsDictOf (PySem.intKind PySem.Challenge.rw_pq0454_01.row.prog w) kvs) (lom : (vd == sysModules) = false)
   (hfi : getL (Str.ofString "first") es2 = some (some .none)) {x y : Int} (hc : Cel kvs key net wd x y news) (hx : 0 ≤ x) (hx' : x < 16) (hy : 0 ≤ y) (hy' : y < 16)
   (T1 : HTab PySem.Challenge.rw_pq0454_01.row.prog w news hh nh f) (hrow : ∃ row vs nn, f [key, 0] = some (.ref row) ∧ (row, listOf vs.toArray nn) ∈ news ∧ IntsAre vs (codesV wd x y))
   (F : Fr h₀ L s.heap (fun y => if y = Str.ofString "spot" then some (.int spot ts) else if y = Str.ofString "store" then some (.ref st) else if y = Str.ofString "held" then some (.ref hh) else if y = Str.ofString "signal" then some (.ref sg) else if y = Str.ofString "blank" then some (.int blank tb) else u y))
   (hE : PassesOwn (model PySem.Challenge.rw_pq0454_01.row.prog w) (ktrTop dp un gd qual lawP.1.2 L a ccd [(Str.ofString "source", ca)] outer) (envX qual lawP.1.2 L a ccd [(Str.ofString "source", ca)]) E)
   (ret : ∀ m' news' h' tk', Fr h₀ L h' m' → News h₀ L h' news' → (∀ q ∈ news, q ∈ news') → Off [Str.ofString "due", Str.ofString "found"] ((fun y => if y = Str.ofString "spot" then some (.int spot ts) else if y = Str.ofString "store" then some (.ref st) else if y = Str.ofString "held" then some (.ref hh) else if y = Str.ofString "signal" then some (.ref sg) else if y = Str.ofString "blank" then some (.int blank tb) else u y)) m' → Q .next { s with heap := h', toks := tk' }) :
   wpAny (model PySem.Challenge.rw_pq0454_01.row.prog w) (ktrTop dp un gd qual lawP.1.2 L a ccd [(Str.ofString "source", ca)] outer) (execs spotB.1 (envX qual lawP.1.2 L a ccd [(Str.ofString "source", ca)])) Q E s := by
  dsimp only [spotB, lawP] at F hE ⊢
  revert X
  k_fill
  intro X
  obtain ⟨hs1, hs2, hs3, hs4, hs5, hs6⟩ := hs1
  obtain ⟨⟨tk0, hkey⟩, ⟨tkd, hkd⟩, ⟨twd, hwd⟩, hnm, him, hnw⟩ := hsi
  obtain ⟨row, vs, nn, hf, hrow, hvs⟩ := hrow
  k_steps
  refine ret _ _ _ _ (by assumption) (by assumption) (by intro q hq; repeat (first | exact hq | refine List.mem_cons_of_mem _ ?_ | refine List.mem_append_right _ ?_)) (by intro y hy; simp only [List.mem_cons, List.not_mem_nil, or_false, not_or] at hy; simp only [hy, if_false])
end
section

structure Sg where
  sg : Addr
  sd : Addr
  es : List DictEntry
  ne : Nat
  wd : Int
  fi : Int
  la : Int
  net : Bool
  mem : Bool
def Sg.words (S : Sg) : Int := if S.mem then (if S.la - S.fi < 0 then -(S.la - S.fi) else S.la - S.fi) + 1 else 1
def blk (net : Bool) : Int := if net then 2 else 3
def Sg.blank (S : Sg) : List Int := (List.replicate S.wd.toNat [blk S.net]).flatten
def RowOk (S : Sg) (r : List Int) : Prop := r.length = S.wd.toNat ∧ ∀ c ∈ r, 0 ≤ c ∧ c < 4
structure Sg.Ok (S : Sg) (k : Nat) : Prop where
  is : SigIs S.es (k : Int) (kdS S.net) S.wd
  w1 : 1 ≤ S.wd
  w4 : S.wd ≤ 4
  f0 : S.mem = false → getL (Str.ofString "first") S.es = some (some .none)
  f1 : S.mem = true → ∃ t, getL (Str.ofString "first") S.es = some (some (.int S.fi t))
  f2 : S.mem = true → ∃ t, getL (Str.ofString "last") S.es = some (some (.int S.la t))
  a1 : 0 ≤ S.fi
  a2 : S.fi ≤ 4
  b1 : 0 ≤ S.la
  b2 : S.la ≤ 4
  ww : S.words ≤ 3
structure Sto where
  st : Addr
  sdx : Addr
  vd : Addr
  md : Addr
  es : List DictEntry
  ne : Nat
structure Gs where
  src : Addr
  lst : Addr
  sl : Addr
  ds : Addr
  dd : Addr
  hh : Addr
  ca : Addr
  nsl : Nat
  ned : Nat
  esd : List DictEntry
  sg : Nat → Sg
  st : Sto
  ot : Sto
  oov : Obj
  oom : Obj
  fz : Led
def Gs.sigs (G : Gs) : List Value := [.ref (G.sg 0).sg, .ref (G.sg 1).sg, .ref (G.sg 2).sg, .ref (G.sg 3).sg]
structure Gs.Ok (w : World) (G : Gs) (ρ : Addr → Option Nat) : Prop where
  sgs : ∀ k : Nat, k < 4 → (G.sg k).Ok k
  fsg : ∀ k : Nat, k < 4 → ((G.sg k).sg, instObj 171 (G.sg k).sd) ∈ G.fz
  fsd : ∀ k : Nat, k < 4 → ((G.sg k).sd, dictOf (G.sg k).es (G.sg k).ne) ∈ G.fz
  fsl : (G.sl, listOf G.sigs.toArray G.nsl) ∈ G.fz
  fds : (G.ds, instObj 234 G.dd) ∈ G.fz
  fdd : (G.dd, dictOf G.esd G.ned) ∈ G.fz
  ged : getL (Str.ofString "signals") G.esd = some (some (.ref G.sl))
  fst : (G.st.st, instObj 108 G.st.sdx) ∈ G.fz
  fsx : (G.st.sdx, dictOf G.st.es G.st.ne) ∈ G.fz
  gst : StoIs G.st.es G.sl G.st.vd G.st.md
  lv : (G.st.vd == sysModules) = false
  lm : (G.st.md == sysModules) = false
  fot : (G.ot.st, instObj 108 G.ot.sdx) ∈ G.fz
  fox : (G.ot.sdx, dictOf G.ot.es G.ot.ne) ∈ G.fz
  got : StoIs G.ot.es G.sl G.ot.vd G.ot.md
  lov : (G.ot.vd == sysModules) = false
  lom : (G.ot.md == sysModules) = false
  fov : (G.ot.vd, G.oov) ∈ G.fz
  dov : G.oov.IsDictOf (PySem.intKind PySem.Challenge.rw_pq0454_01.row.prog w) []
  fom : (G.ot.md, G.oom) ∈ G.fz
  dom : G.oom.IsDictOf (PySem.intKind PySem.Challenge.rw_pq0454_01.row.prog w) []
  fca : ∃ o, (G.ca, o) ∈ G.fz ∧ o.data = .cell (some (.ref G.src))
  rfz : ∀ q ∈ G.fz, ρ q.1 = some 0
  r0 : ∀ a, ρ a = some 0 → ∃ o, (a, o) ∈ G.fz
  rsrc : ρ G.src = some 1
  rlst : ρ G.lst = some 2
  rvd : ρ G.st.vd = some 3
  rmd : ρ G.st.md = some 4
  rhh : ρ G.hh = some 5
def NotIt (o : Obj) : Prop := o.cls ≠ .type "list_iterator" ∧ o.cls ≠ .type "range_iterator"
def MemOk (w : World) (G : Gs) (ρ : Addr → Option Nat) (waF : Nat → Option Addr) (n : Nat) (tab : Nat → Int → List Int) (kvm : List (Int × Value)) (k : Nat) (news : Led) : Prop :=
  (valueAt kvm k = none ∧ waF k = none ∧ ∀ s, tab k s = (G.sg k).blank) ∨
  ∃ wa ow kvw, valueAt kvm k = some (.ref wa) ∧ waF k = some wa ∧ ρ wa = none ∧ (wa, ow) ∈ news ∧ ow.IsDictOf (PySem.intKind PySem.Challenge.rw_pq0454_01.row.prog w) kvw ∧ (wa == sysModules) = false ∧ kvw.length ≤ n ∧ ∀ s, Cel kvw s (G.sg k).net (G.sg k).wd (encA (tab k s)) (encB (tab k s)) news
structure Inv (w : World) (G : Gs) (ρ : Addr → Option Nat) (f : List Int → Option Value) (waF : Nat → Option Addr) (n nh : Nat) (tS tH : Nat → Int → List Int) (news : Led) : Prop where
  ok : G.Ok w ρ
  src : Src G.src G.lst news
  fz : ∀ q ∈ G.fz, q ∈ news
  dom : ∀ a r, ρ a = some r → r ≠ 0 → ∃ o, (a, o) ∈ news ∧ NotIt o
  vals : ∃ ov kvs, (G.st.vd, ov) ∈ news ∧ ov.IsDictOf (PySem.intKind PySem.Challenge.rw_pq0454_01.row.prog w) kvs ∧ kvs.length ≤ n ∧ ∀ k : Nat, k < 4 → (G.sg k).mem = false → Cel kvs k (G.sg k).net (G.sg k).wd (encA (tS k 0)) (encB (tS k 0)) news
  mems : ∃ om kvm, (G.st.md, om) ∈ news ∧ om.IsDictOf (PySem.intKind PySem.Challenge.rw_pq0454_01.row.prog w) kvm ∧ kvm.length ≤ n ∧ ∀ k : Nat, k < 4 → (G.sg k).mem = true → MemOk w G ρ waF n tS kvm k news
  waN : ∀ k : Nat, k < 4 → (G.sg k).mem = false → waF k = none
  waI : ∀ k k' a, k < 4 → k' < 4 → waF k = some a → waF k' = some a → k = k'
  held : HTab PySem.Challenge.rw_pq0454_01.row.prog w news G.hh nh f
  rows : ∀ k : Nat, k < 4 → ∀ s v, f [(k : Int), s] = some v → ∃ a vs nn, v = .ref a ∧ (a, listOf vs.toArray nn) ∈ news ∧ IntsAre vs (tH k s) ∧ ρ a = some (100 + 100 * k + s.toNat) ∧ 0 ≤ s ∧ s < 100
  okS : ∀ k : Nat, k < 4 → ∀ s, RowOk (G.sg k) (tS k s)
  okH : ∀ k : Nat, k < 4 → ∀ s, RowOk (G.sg k) (tH k s)

section
variable {w : World} {G : Gs} {ρ : Addr → Option Nat} {f : List Int → Option Value} {waF : Nat → Option Addr} {n nh : Nat} {tS tH : Nat → Int → List Int} {news news' : Led} {h₀ h : Heap} {L : Addr}
theorem MemOk.keep {kvm : List (Int × Value)} {k : Nat} (M : MemOk w G ρ waF n tS kvm k news) (h1 : ∀ q ∈ news, q.2.cls = .type "tuple" → q ∈ news') (h2 : ∀ wa ow, waF k = some wa → (wa, ow) ∈ news → (wa, ow) ∈ news') : MemOk w G ρ waF n tS kvm k news' := by
  rcases M with M | ⟨wa, ow, kvw, e1, e2, e3, hm, hd, lo, hl, hc⟩
  · exact .inl M
  · exact .inr ⟨wa, ow, kvw, e1, e2, e3, h2 _ _ e2 hm, hd, lo, hl, fun s => (hc s).sub h1⟩
theorem Inv.keep (I : Inv w G ρ f waF n nh tS tH news) (ht : ∀ q ∈ news, q.2.cls = .type "tuple" → q ∈ news') (hr : ∀ q ∈ news, ∀ r, ρ q.1 = some r → q ∈ news') (hw : ∀ k : Nat, k < 4 → ∀ wa ow, waF k = some wa → (wa, ow) ∈ news → (wa, ow) ∈ news') : Inv w G ρ f waF n nh tS tH news' where
  ok := I.ok
  src := by
    obtain ⟨cur, seed, t1, t2, n1, vs, ns, n2, m1, m2, r⟩ := I.src
    exact ⟨cur, seed, t1, t2, n1, vs, ns, n2, hr _ m1 _ I.ok.rsrc, hr _ m2 _ I.ok.rlst, r⟩
  fz := fun q hq => hr q (I.fz q hq) _ (I.ok.rfz q hq)
  dom := fun a r h1 h2 => let ⟨o, hm, hc⟩ := I.dom a r h1 h2; ⟨o, hr _ hm _ h1, hc⟩
  vals := by
    obtain ⟨ov, kvs, m, d, l, c⟩ := I.vals
    exact ⟨ov, kvs, hr _ m _ I.ok.rvd, d, l, fun k hk hm => (c k hk hm).sub ht⟩
  mems := by
    obtain ⟨om, kvm, m, d, l, c⟩ := I.mems
    exact ⟨om, kvm, hr _ m _ I.ok.rmd, d, l, fun k hk hm => (c k hk hm).keep ht (hw k hk)⟩
  waN := I.waN
  waI := I.waI
  held := I.held.keep (fun o hm => hr _ hm _ I.ok.rhh) fun a o hm hc => ht _ hm hc
  rows := fun k hk s v hf => by
    obtain ⟨a, vs, nn, e, m, r, e2, b⟩ := I.rows k hk s v hf
    exact ⟨a, vs, nn, e, hr _ m _ e2, r, e2, b⟩
  okS := I.okS
  okH := I.okH
theorem Inv.mono (I : Inv w G ρ f waF n nh tS tH news) (h : ∀ q ∈ news, q ∈ news') : Inv w G ρ f waF n nh tS tH news' := I.keep (fun q hq _ => h q hq) (fun q hq _ _ => h q hq) fun _ _ _ _ _ hm => h _ hm
theorem led_fun {a : Addr} {o o' : Obj} (N : News h₀ L h news) (h1 : (a, o) ∈ news) (h2 : (a, o') ∈ news) : o = o' := Option.some.inj ((N.get h1).symm.trans (N.get h2))
theorem dict_cls {ow : Obj} {kvw : List (Int × Value)} (hd : ow.IsDictOf (PySem.intKind PySem.Challenge.rw_pq0454_01.row.prog w) kvw) : ow.cls = .type "dict" := by
  obtain ⟨es, ep, hx, _⟩ := hd
  exact hx.1
theorem Inv.drop (I : Inv w G ρ f waF n nh tS tH news) (N : News h₀ L h news) {x : Addr} {o : Obj} (hx : (x, o) ∈ news) (hc : o.cls ≠ .type "tuple") (hr : ρ x = none) (hw : ∀ k : Nat, k < 4 → waF k ≠ some x) (hk : ∀ q ∈ news, q.1 ≠ x → q ∈ news') : Inv w G ρ f waF n nh tS tH news' := by
  refine I.keep (fun q hq ht => hk q hq fun e => ?_) (fun q hq r h1 => hk q hq fun e => ?_) fun k hk4 wa ow h1 hm => hk _ hm fun e => ?_
  · obtain ⟨a, o'⟩ := q
    have e' : a = x := e
    subst e'
    exact hc (led_fun N hx hq ▸ ht)
  · rw [e, hr] at h1; cases h1
  · have e' : wa = x := e
    exact hw k hk4 (e' ▸ h1)
theorem Inv.wa (I : Inv w G ρ f waF n nh tS tH news) {k : Nat} (hk : k < 4) (hm : (G.sg k).mem = true) {x : Addr} (hw : waF k = some x) : ρ x = none ∧ ∃ ow, (x, ow) ∈ news ∧ ow.cls = .type "dict" := by
  obtain ⟨om, kvm, m, d, l, c⟩ := I.mems
  rcases c k hk hm with ⟨_, e, _⟩ | ⟨wa, ow, kvw, e1, e2, e3, hmm, hd, lo, hl, hc⟩
  · rw [e] at hw; cases hw
  · rw [e2] at hw
    injection hw with hw
    subst hw
    exact ⟨e3, ow, hmm, dict_cls hd⟩
end
end
section

def listsOf (l : List Int) : Nat → List (List Int)
  | 0 => [[]]
  | n + 1 => l.flatMap fun c => (listsOf l n).map (c :: ·)
theorem mem_listsOf {l : List Int} : ∀ {n : Nat} {r : List Int}, r.length = n → (∀ c ∈ r, c ∈ l) → r ∈ listsOf l n
  | 0, [], _, _ => List.mem_singleton.mpr rfl
  | 0, _ :: _, h, _ => by cases h
  | _ + 1, [], h, _ => by cases h
  | n + 1, c :: r, h, hc => List.mem_flatMap.mpr ⟨c, hc c (.head _), List.mem_map.mpr ⟨r, mem_listsOf (by simpa using h) (fun x hx => hc x (.tail _ hx)), rfl⟩⟩
theorem four {c : Int} (h : 0 ≤ c ∧ c < 4) : c ∈ ([0, 1, 2, 3] : List Int) := by
  have : c = 0 ∨ c = 1 ∨ c = 2 ∨ c = 3 := by omega
  simpa using this
def encOk (n : Nat) (r : List Int) : Bool := decide (0 ≤ encA r) && decide (encA r < 16) && decide (0 ≤ encB r) && decide (encB r < 16) && decide (codesV (n : Int) (encA r) (encB r) = r)
theorem encOk_all : ∀ n ∈ [1, 2, 3, 4], ∀ r ∈ listsOf [0, 1, 2, 3] n, encOk n r = true := by decide +kernel
theorem wd_nat {wd : Int} (h1 : 1 ≤ wd) (h4 : wd ≤ 4) : ∃ n : Nat, wd = (n : Int) ∧ n ∈ [1, 2, 3, 4] := by
  refine ⟨wd.toNat, by omega, ?_⟩
  have : wd.toNat = 1 ∨ wd.toNat = 2 ∨ wd.toNat = 3 ∨ wd.toNat = 4 := by omega
  simpa using this
theorem enc_of {S : Sg} {r : List Int} (h1 : 1 ≤ S.wd) (h4 : S.wd ≤ 4) (h : RowOk S r) : (0 ≤ encA r ∧ encA r < 16 ∧ 0 ≤ encB r ∧ encB r < 16) ∧ codesV S.wd (encA r) (encB r) = r := by
  obtain ⟨n, e, hn⟩ := wd_nat h1 h4
  have hl : r.length = n := by rw [h.1, e]; rfl
  have := encOk_all n hn r (mem_listsOf hl fun c hc => four (h.2 c hc))
  unfold encOk at this
  simp only [Bool.and_eq_true, decide_eq_true_eq] at this
  obtain ⟨⟨⟨⟨a, b⟩, c⟩, d⟩, e2⟩ := this
  rw [e]
  exact ⟨⟨a, b, c, d⟩, e2⟩
def blankOk (n : Nat) (net : Bool) : Bool := let r := (List.replicate n [blk net]).flatten; decide (encA r = blX net (n : Int)) && decide (encB r = 2 ^ n - 1) && decide (r.length = n) && r.all fun c => decide (0 ≤ c) && decide (c < 4)
theorem blankOk_all : ∀ n ∈ [1, 2, 3, 4], ∀ net ∈ [true, false], blankOk n net = true := by decide +kernel
theorem blank_of {S : Sg} (h1 : 1 ≤ S.wd) (h4 : S.wd ≤ 4) : encA S.blank = blX S.net S.wd ∧ encB S.blank = 2 ^ S.wd.toNat - 1 ∧ RowOk S S.blank := by
  obtain ⟨n, e, hn⟩ := wd_nat h1 h4
  have hb : S.net ∈ [true, false] := by cases S.net <;> simp
  have := blankOk_all n hn S.net hb
  unfold blankOk at this
  simp only [Bool.and_eq_true, decide_eq_true_eq, List.all_eq_true] at this
  obtain ⟨⟨⟨a, b⟩, c⟩, d⟩ := this
  have hw : S.wd.toNat = n := by rw [e]; rfl
  have ht : S.wd = ((S.wd.toNat : Nat) : Int) := by omega
  unfold Sg.blank RowOk
  rw [hw, e]
  exact ⟨a, b, c, d⟩
section
variable {w : World} {G : Gs} {ρ : Addr → Option Nat} {f : List Int → Option Value} {waF : Nat → Option Addr} {n nh : Nat} {tS tH : Nat → Int → List Int} {news news' : Led} {h₀ h : Heap} {L : Addr}
theorem sigs_at (G : Gs) {k : Nat} (hk : k < 4) : G.sigs.toArray[((k : Nat) : Int).toNat]? = some (.ref (G.sg k).sg) := by
  have : k = 0 ∨ k = 1 ∨ k = 2 ∨ k = 3 := by omega
  rcases this with rfl | rfl | rfl | rfl <;> rfl
theorem Inv.celM (I : Inv w G ρ f waF n nh tS tH news) {k : Nat} (hk : k < 4) (hm : (G.sg k).mem = true) : ∃ om kvm, (G.st.md, om) ∈ news ∧ om.IsDictOf (PySem.intKind PySem.Challenge.rw_pq0454_01.row.prog w) kvm ∧ ∀ s, CelM w kvm k s (G.sg k).net (G.sg k).wd (encA (tS k s)) (encB (tS k s)) news := by
  obtain ⟨om, kvm, m, d, l, c⟩ := I.mems
  refine ⟨om, kvm, m, d, fun s => ?_⟩
  rcases c k hk hm with ⟨e, _, hs⟩ | ⟨wa, ow, kvw, e1, e2, e3, hmm, hd, lo, hl, hc⟩
  · have hb := blank_of (I.ok.sgs k hk).w1 (I.ok.sgs k hk).w4
    exact .inr ⟨e, by rw [hs]; exact hb.1, by rw [hs]; exact hb.2.1⟩
  · exact .inl ⟨wa, ow, kvw, e1, hmm, hd, lo, hc s⟩
end
end
section

theorem off_has {ns : List Str} {m m' : Str → Option Value} {x : Str} {v : Value} (o : Off ns m m') (h1 : x ∉ ns) (h2 : m x = some v) : m' x = some v := (o x h1).trans h2
def Full (G : Gs) (f : List Int → Option Value) (tab : Nat → Int → List Int) : Prop := ∀ k : Nat, k < 4 → ∀ s, ((f [(k : Int), s]).isSome = true ↔ 0 ≤ s ∧ s < (G.sg k).words) ∧ (¬ (0 ≤ s ∧ s < (G.sg k).words) → tab k s = (G.sg k).blank)
section
variable {w : World} {G : Gs} {ρ : Addr → Option Nat} {f : List Int → Option Value} {waF : Nat → Option Addr} {n nh : Nat} {tS tH : Nat → Int → List Int} {news news' : Led} {h₀ h : Heap} {L : Addr}
theorem Inv.due (I : Inv w G ρ f waF n nh tS tS news) (Fu : Full G f tS) {k : Nat} (hk : k < 4) (s : Int) :
    DueAt f [(k : Int), s] (codesV (G.sg k).wd (encA (tS k s)) (encB (tS k s))) (List.replicate (G.sg k).wd.toNat [blk (G.sg k).net]).flatten news := by
  have h1 := (I.ok.sgs k hk).w1
  have h4 := (I.ok.sgs k hk).w4
  have hc := enc_of h1 h4 (I.okS k hk s)
  unfold DueAt
  cases hf : f [(k : Int), s] with
  | some v =>
    obtain ⟨a, vs, nn, e, m, r, _⟩ := I.rows k hk s v hf
    subst e
    exact .inl ⟨a, vs, nn, rfl, m, by rw [hc.2]; exact r⟩
  | none =>
    refine .inr ⟨rfl, ?_⟩
    rw [hc.2]
    have := (Fu k hk s).2 (fun hv => by have := (Fu k hk s).1.mpr hv; rw [hf] at this; cases this)
    rw [this]
    rfl
theorem Inv.due0 (I : Inv w G ρ f waF n nh tS tS news) (Fu : Full G f tS) {k : Nat} (hk : k < 4) (hm : (G.sg k).mem = false) :
    ∃ row vs nn, f [(k : Int), 0] = some (.ref row) ∧ (row, listOf vs.toArray nn) ∈ news ∧ IntsAre vs (codesV (G.sg k).wd (encA (tS k 0)) (encB (tS k 0))) := by
  rcases I.due Fu hk 0 with h | ⟨h, _⟩
  · exact h
  · have h1 : (G.sg k).words = 1 := by unfold Sg.words; rw [hm]; rfl
    have := (Fu k hk 0).1.mpr ⟨by omega, by omega⟩
    rw [h] at this; cases this
theorem drp_sub {I : Addr} {news0 : Led} (h : ∀ q ∈ news0, q ∈ news) (hI : ∀ q ∈ news0, q.1 ≠ I) : ∀ q ∈ news0, q ∈ drp I news := fun q hq => mem_drp.mpr ⟨h q hq, hI q hq⟩
end

set_option maxRecDepth 100000 in
noncomputable def sigB : { b : List Stmt // stB (stB lawP.1.1 8) 0 = b } := by
  refine' ⟨?b, ?h⟩
  case h => (dsimp only [lawP, stB, forB, List.drop, List.getElem?_cons_succ, List.getElem?_cons_zero]; exact rfl)

set_option maxRecDepth 100000 in
def blankS : { b : Stmt // (stB (stB lawP.1.1 8) 0)[0]? = some b } := by
  refine' ⟨?b, ?h⟩
  case h => (dsimp only [lawP, stB, forB, List.drop, List.getElem?_cons_succ, List.getElem?_cons_zero]; exact rfl)

set_option maxRecDepth 100000 in
def blankH : { b : Stmt // (stB lawP.1.1 7)[0]? = some b } := by
  refine' ⟨?b, ?h⟩
  case h => (dsimp only [lawP, stB, forB, List.drop, List.getElem?_cons_succ, List.getElem?_cons_zero]; exact rfl)
end
section
local macro_rules | `(tactic| walk_at "call ref") => `(tactic| (k_here; k_dflt (refine' con_use (con_isnet ?hk1) ?B ?F ?X ?N ?T ?K ?hp ?hd ?hu ?_; (case B => k_asm); (case F => k_asm); (case X => k_asm); (case N => k_asm); (case T => k_asm); (case K => first | exact rfl | assumption); (case hd => ktr_room); (case hu => ktr_units); (case hp => exact ⟨by k_mem, by k_mem⟩); (case hk1 => assumption); k_whole); intro r' news' h' tk' F' N' hpost; (obtain ⟨hr', tl', hn'⟩ := hpost); subst hn'; subst hr'; (try k_fold)))

set_option maxRecDepth 100000 in
set_option maxHeartbeats 8000000 in
theorem blankT {w : World} {p : Program} {loose : List Str} {mean : ExcName → Option Value} {mg mb : Str → Option Value} {qual : Str}
    {dp un : Nat} {gd : Option (List Code)} {a : Addr} {ccd : Value} {ca : Addr} {outer : List Env} {A₀ : Around} {base h₀ : Heap} {L : Addr} {s : Shared} {Q : Flow → Shared → Prop} {E : Value → Shared → Prop} {news : Led}
    (B : Below A₀ base outer h₀) (X : (Mine.hd.heap_39 w.params).In h₀) (N : News h₀ L s.heap news) (T : Top p loose mean mg mb h₀) (hd : dp + 50 < recursionLimit) (hu : un + 600 < cLine)
   {G : Gs} {ρ : Addr → Option Nat} {f : List Int → Option Value} {waF : Nat → Option Addr} {n nh : Nat} {tS tH : Nat → Int → List Int} (I : Inv w G ρ f waF n nh tS tH news) {k : Nat} (hk : k < 4)
   {u : Str → Option Value} (F : Fr h₀ L s.heap (fun y => if y = Str.ofString "signal" then some (.ref (G.sg k).sg) else u y))
   (hE : PassesOwn (model PySem.Challenge.rw_pq0454_01.row.prog w) (ktrTop dp un gd qual lawP.1.2 L a ccd [(Str.ofString "source", ca)] outer) (envX qual lawP.1.2 L a ccd [(Str.ofString "source", ca)]) E)
   (ret : ∀ tb news' h' tk', Fr h₀ L h' (fun y => if y = Str.ofString "blank" then some (.int (blk (G.sg k).net) tb) else if y = Str.ofString "signal" then some (.ref (G.sg k).sg) else u y) → News h₀ L h' news' → (∀ q ∈ news, q ∈ news') → Q .next { s with heap := h', toks := tk' }) :
   wpAny (model PySem.Challenge.rw_pq0454_01.row.prog w) (ktrTop dp un gd qual lawP.1.2 L a ccd [(Str.ofString "source", ca)] outer) (exec blankS.1 (envX qual lawP.1.2 L a ccd [(Str.ofString "source", ca)])) Q E s := by
  dsimp only [blankS, lawP] at F hE ⊢
  revert X
  k_fill
  intro X
  obtain ⟨_, ⟨tkd, hkd⟩, _, hnm, _, _⟩ := (I.ok.sgs k hk).is
  have hsg := I.fz _ (I.ok.fsg k hk)
  have hsd := I.fz _ (I.ok.fsd k hk)
  show wpAny _ _ _ (fun f s' => Q f s') (fun e s' => E e s') _
  k_fold
  rcases hnet : (G.sg k).net
  · rw [hnet] at hkd ret
    k_steps
    exact ret _ _ _ _ (by assumption) (by assumption) (fun q hq => List.mem_append_right _ hq)
  · rw [hnet] at hkd ret
    k_steps
    exact ret _ _ _ _ (by assumption) (by assumption) (fun q hq => List.mem_append_right _ hq)

set_option maxRecDepth 100000 in
set_option maxHeartbeats 8000000 in
theorem blankU {w : World} {p : Program} {loose : List Str} {mean : ExcName → Option Value} {mg mb : Str → Option Value} {qual : Str}
    {dp un : Nat} {gd : Option (List Code)} {a : Addr} {ccd : Value} {ca : Addr} {outer : List Env} {A₀ : Around} {base h₀ : Heap} {L : Addr} {s : Shared} {Q : Flow → Shared → Prop} {E : Value → Shared → Prop} {news : Led}
    (B : Below A₀ base outer h₀) (X : (Mine.hd.heap_39 w.params).In h₀) (N : News h₀ L s.heap news) (T : Top p loose mean mg mb h₀) (hd : dp + 50 < recursionLimit) (hu : un + 600 < cLine)
   {G : Gs} {ρ : Addr → Option Nat} {f : List Int → Option Value} {waF : Nat → Option Addr} {n nh : Nat} {tS tH : Nat → Int → List Int} (I : Inv w G ρ f waF n nh tS tH news) {k : Nat} (hk : k < 4)
   {u : Str → Option Value} (F : Fr h₀ L s.heap (fun y => if y = Str.ofString "signal" then some (.ref (G.sg k).sg) else u y))
   (hE : PassesOwn (model PySem.Challenge.rw_pq0454_01.row.prog w) (ktrTop dp un gd qual lawP.1.2 L a ccd [(Str.ofString "source", ca)] outer) (envX qual lawP.1.2 L a ccd [(Str.ofString "source", ca)]) E)
   (ret : ∀ tb news' h' tk', Fr h₀ L h' (fun y => if y = Str.ofString "blank" then some (.int (blk (G.sg k).net) tb) else if y = Str.ofString "signal" then some (.ref (G.sg k).sg) else u y) → News h₀ L h' news' → (∀ q ∈ news, q ∈ news') → Q .next { s with heap := h', toks := tk' }) :
   wpAny (model PySem.Challenge.rw_pq0454_01.row.prog w) (ktrTop dp un gd qual lawP.1.2 L a ccd [(Str.ofString "source", ca)] outer) (exec blankH.1 (envX qual lawP.1.2 L a ccd [(Str.ofString "source", ca)])) Q E s := by
  dsimp only [blankH, lawP] at F hE ⊢
  revert X
  k_fill
  intro X
  obtain ⟨_, ⟨tkd, hkd⟩, _, hnm, _, _⟩ := (I.ok.sgs k hk).is
  have hsg := I.fz _ (I.ok.fsg k hk)
  have hsd := I.fz _ (I.ok.fsd k hk)
  show wpAny _ _ _ (fun f s' => Q f s') (fun e s' => E e s') _
  k_fold
  rcases hnet : (G.sg k).net
  · rw [hnet] at hkd ret
    k_steps
    exact ret _ _ _ _ (by assumption) (by assumption) (fun q hq => List.mem_append_right _ hq)
  · rw [hnet] at hkd ret
    k_steps
    exact ret _ _ _ _ (by assumption) (by assumption) (fun q hq => List.mem_append_right _ hq)
end
section
local macro_rules | `(tactic| walk_at "exec For Name Call cons nil") => `(tactic| (k_here; (rename Fr _ _ _ _ => lF'); (with_unfolding_all refine' For_invVF lF' ?k1 ?k2 ?_; (case k1 => exact rfl); (case k2 => exact rfl); k_whole)))
local macro_rules | `(tactic| walk_at "exec For Name Attribute cons nil") => `(tactic| (k_here; (rename Fr _ _ _ _ => lF'); (with_unfolding_all refine' For_invVF lF' ?k1 ?k2 ?_; (case k1 => exact rfl); (case k2 => exact rfl); k_whole)))
local macro_rules | `(tactic| walk_at "pyIter ref") => `(tactic| (k_here; refine' hold_out ?_))
local macro_rules | `(tactic| walk_at "call ref") => `(tactic| (k_here; k_dflt (refine' con_use (con_isnet ?hk1) ?B ?F ?X ?N ?T ?K ?hp ?hd ?hu ?_; (case B => k_asm); (case F => k_asm); (case X => k_asm); (case N => k_asm); (case T => k_asm); (case K => first | exact rfl | assumption); (case hd => ktr_room); (case hu => ktr_units); (case hp => exact ⟨by k_mem, by k_mem⟩); (case hk1 => assumption); k_whole); intro r' news' h' tk' F' N' hpost; (obtain ⟨hr', tl', hn'⟩ := hpost); subst hn'; subst hr'; (try k_fold)))
local macro_rules | `(tactic| walk_at "call ref") => `(tactic| (k_here; k_dflt (refine' con_use (con_codes ?hn ?hn4 ?hx ?hx2 ?hy ?hy2) ?B ?F ?X ?N ?T ?K ?m1 ?hd ?hu ?_; (case B => k_asm); (case F => k_asm); (case X => k_asm); (case N => k_asm); (case T => k_asm); (case K => first | exact rfl | assumption); (case hd => ktr_room); (case hu => ktr_units); (case m1 => k_mem); (case hn => omega); (case hn4 => omega); (case hx => omega); (case hx2 => omega); (case hy => omega); (case hy2 => omega); k_whole); intro r' news' h' tk' F' N' hpost; (obtain ⟨ra', vs', nn', hr', hn', hi'⟩ := hpost); subst hn'; subst hr'; (try k_fold)))
local macro_rules | `(tactic| walk_at "compareOp NotEq ref ref") => `(tactic| (k_here; (with_reducible show wpAny _ _ (compareOp CmpOp.NotEq (Value.ref _) (Value.ref _)) _ _ _); k_dflt (refine' ne_ints_same ?N ?ha ?hb ?hi ?hj ?hu ?_; (case N => k_asm); (case ha => k_mem); (case hb => k_mem); (case hi => (first | with_reducible assumption | (rename (codesV _ _ _ = _) => he9; rw [he9]; assumption))); (case hj => (first | with_reducible assumption | (rename (codesV _ _ _ = _) => he9; rw [he9]; assumption))); (case hu => ktr_units); k_whole)))
local macro_rules | `(tactic| walk_at "call ref") => `(tactic| (k_here; k_dflt (refine' con_use (con_word ?hs1 ?hs2 ?hs3 ?hk0 ?hk3 ?hsig ?hdm ?lom ?hnm ?hkd ?hwd ?hw1 ?hw4) ?B ?F ?X ?N ?T ?K ⟨⟨?m1, ?m2, ?m3, ?m4, ?m5, ?m6⟩, ?cel⟩ ?hd ?hu ?_; (case B => k_asm); (case F => k_asm); (case X => k_asm); (case N => k_asm); (case T => k_asm); (case K => first | exact rfl | assumption); (case hd => ktr_room); (case hu => ktr_units); (case m1 => k_mem); (case m2 => k_mem); (case hs1 => assumption); (case hs2 => assumption); (case hs3 => assumption); (case m3 => k_mem); (case m4 => k_mem); (case hsig => assumption); (case m5 => k_mem); (case m6 => k_mem); (case hdm => assumption); (case lom => assumption); (case hnm => assumption); (case hkd => assumption); (case hwd => assumption); (case hk0 => omega); (case hk3 => omega); (case hw1 => omega); (case hw4 => omega); (case cel => exact CelM.sub (by assumption) (by intro q hq; repeat (first | exact hq | refine List.mem_cons_of_mem _ ?_ | refine List.mem_append_right _ ?_))); k_whole); intro r' news' h' tk' F' N' hpost; (obtain ⟨tl', b', u1', u2', u3', hn', hr', hb'⟩ := hpost); subst hn'; subst hr'; (try k_fold)))
local macro_rules | `(tactic| walk_at "call ref") => `(tactic| (k_here; k_dflt (refine' con_use (con_ismem_i ?hk1) ?B ?F ?X ?N ?T ?K ?hp ?hd ?hu ?_; (case B => k_asm); (case F => k_asm); (case X => k_asm); (case N => k_asm); (case T => k_asm); (case K => first | exact rfl | assumption); (case hd => ktr_room); (case hu => ktr_units); (case hp => exact ⟨by k_mem, by k_mem⟩); (case hk1 => assumption); k_whole); intro r' news' h' tk' F' N' hpost; (obtain ⟨hn', hr'⟩ := hpost); subst hn'; subst hr'; (try k_fold)))

set_option maxRecDepth 100000 in
set_option maxHeartbeats 8000000 in
theorem sigM {w : World} {p : Program} {loose : List Str} {mean : ExcName → Option Value} {mg mb : Str → Option Value} {qual : Str}
    {dp un : Nat} {gd : Option (List Code)} {a : Addr} {ccd : Value} {ca : Addr} {outer : List Env} {A₀ : Around} {base h₀ : Heap} {L : Addr} {s : Shared} {Q : Flow → Shared → Prop} {E : Value → Shared → Prop} {news : Led}
    (B : Below A₀ base outer h₀) (X : (Mine.hd.heap_39 w.params).In h₀) (N : News h₀ L s.heap news) (T : Top p loose mean mg mb h₀) (hd : dp + 50 < recursionLimit) (hu : un + 600 < cLine)
   {G : Gs} {ρ : Addr → Option Nat} {f : List Int → Option Value} {waF : Nat → Option Addr} {n nh : Nat} {tS tH : Nat → Int → List Int} (I : Inv w G ρ f waF n nh tS tS news) (Fu : Full G f tS) {k : Nat} (hk : k < 4) (hmem : (G.sg k).mem = true)
   {u : Str → Option Value} (F : Fr h₀ L s.heap (fun y => if y = Str.ofString "signal" then some (.ref (G.sg k).sg) else if y = Str.ofString "store" then some (.ref G.st.st) else if y = Str.ofString "other" then some (.ref G.ot.st) else if y = Str.ofString "held" then some (.ref G.hh) else if y = Str.ofString "design" then some (.ref G.ds) else u y))
   (hE : PassesOwn (model PySem.Challenge.rw_pq0454_01.row.prog w) (ktrTop dp un gd qual lawP.1.2 L a ccd [(Str.ofString "source", ca)] outer) (envX qual lawP.1.2 L a ccd [(Str.ofString "source", ca)]) E)
   (ret : ∀ m' news' h' tk', Fr h₀ L h' m' → News h₀ L h' news' → (∀ q ∈ news, q ∈ news') → Has m' [(Str.ofString "store", .ref G.st.st), (Str.ofString "other", .ref G.ot.st), (Str.ofString "held", .ref G.hh), (Str.ofString "design", .ref G.ds)] → Q .next { s with heap := h', toks := tk' }) :
   wpAny (model PySem.Challenge.rw_pq0454_01.row.prog w) (ktrTop dp un gd qual lawP.1.2 L a ccd [(Str.ofString "source", ca)] outer) (execs sigB.1 (envX qual lawP.1.2 L a ccd [(Str.ofString "source", ca)])) Q E s := by
  dsimp only [sigB, lawP] at F hE ⊢
  revert X
  k_fill
  intro X
  have Sk := I.ok.sgs k hk
  obtain ⟨⟨tk0, hkey⟩, ⟨tkd, hkd⟩, ⟨twd, hwd⟩, hnm, him, hnw⟩ := Sk.is
  have hw1 := Sk.w1
  have hw4 := Sk.w4
  refine wpAny_execs_cons ?_
  refine blankT (tH := tS) B X N T hd hu I hk F hE (fun tb0 n0 h0 tk0 F0 N0 sub0 => ?_)
  dsimp only
  k_steps
  refine hold_in ?_
  rename IsRange _ _ _ _ _ _ _ _ => rg
  rename Fr _ _ _ _ => F5
  rename News _ _ _ _ => N5
  refine range_rule (n := 6) (fun i m' n' => (∀ q ∈ n0, q ∈ n') ∧ ∃ tb, Has m' [(Str.ofString "store", .ref G.st.st), (Str.ofString "held", .ref G.hh), (Str.ofString "signal", .ref (G.sg k).sg), (Str.ofString "blank", .int (blk (G.sg k).net) tb), (Str.ofString "other", .ref G.ot.st), (Str.ofString "design", .ref G.ds)]) rfl rg (by decide) (by decide) F5 N5 ⟨fun q hq => hq, _, (has_cons (by exact rfl) (has_cons (by exact rfl) (has_cons (by exact rfl) (has_cons (by exact rfl) (has_cons (by exact rfl) (has_cons (by exact rfl) (has_nil)))))))⟩ ?turn ?done
  case turn =>
    rintro i m₁ n₁ It it t h tk hi ⟨hsub, tb, hps⟩ hic hoff F9 N9
    have F1 : Fr h₀ L h (fun y => if y = Str.ofString "spot" then some (.int (-1 + (i : Int)) t) else if y = Str.ofString "store" then some (.ref G.st.st) else if y = Str.ofString "held" then some (.ref G.hh) else if y = Str.ofString "signal" then some (.ref (G.sg k).sg) else if y = Str.ofString "blank" then some (.int (blk (G.sg k).net) tb) else kstB m₁ [(Str.ofString "other", .ref G.ot.st), (Str.ofString "design", .ref G.ds)] y) := fr_has F9 hps
    have I1 := I.mono (news' := (It, it) :: n₁) (fun q hq => .tail _ (hsub q (sub0 q hq)))
    have hen := enc_of Sk.w1 Sk.w4 (I.okS k hk (-1 + (i : Int)))
    have hdu := I1.due Fu hk (-1 + (i : Int))
    obtain ⟨om, kvm, hmd, hdm, hcel⟩ := I1.celM hk hmem
    have hcel := hcel (-1 + (i : Int))
    obtain ⟨tf, hfi⟩ := Sk.f1 hmem
    refine spotM (u := kstB m₁ [(Str.ofString "other", .ref G.ot.st), (Str.ofString "design", .ref G.ds)]) B X N9 T hd hu (I1.fz _ I.ok.fst) (I1.fz _ I.ok.fsx) I.ok.gst (I1.fz _ I.ok.fsl) (sigs_at G hk) (I1.fz _ (I.ok.fsg k hk)) (I1.fz _ (I.ok.fsd k hk)) Sk.is Sk.w1 Sk.w4 (by omega) (by omega) hmd hdm I.ok.lm (la := 0) (tl := 0) hfi hcel hen.1.1 hen.1.2.1 hen.1.2.2.1 hen.1.2.2.2 I1.held hdu F1 hE (fun m' n' h' tk' F' N' sub' off' => TurnPost.end (.inl rfl) F' N' (sub' _ (.head _)) ⟨drp_sub (fun q hq => sub' _ (.tail _ (hsub q hq))) hoff, tb, (has_cons (off_has off' (by decide) rfl) (has_cons (off_has off' (by decide) rfl) (has_cons (off_has off' (by decide) rfl) (has_cons (off_has off' (by decide) rfl) (has_cons (off_has off' (by decide) rfl) (has_cons (off_has off' (by decide) rfl) (has_nil)))))))⟩)
  case done =>
    rintro m₁ n₁ h tk ⟨hsub, tb, hps⟩ F9 N9
    have F1 : Fr h₀ L h (fun y => if y = Str.ofString "store" then some (.ref G.st.st) else if y = Str.ofString "held" then some (.ref G.hh) else if y = Str.ofString "signal" then some (.ref (G.sg k).sg) else if y = Str.ofString "blank" then some (.int (blk (G.sg k).net) tb) else if y = Str.ofString "other" then some (.ref G.ot.st) else if y = Str.ofString "design" then some (.ref G.ds) else m₁ y) := fr_has0 F9 hps
    have I1 := I.mono (fun q hq => hsub q (sub0 q hq))
    have N1 : News h₀ L h n₁ := N9
    clear F5 N5 rg F9 N9
    have hb := blank_of Sk.w1 Sk.w4
    have hen := enc_of Sk.w1 Sk.w4 hb.2.2
    have he9 : codesV (G.sg k).wd (encA (G.sg k).blank) (encB (G.sg k).blank) = (List.replicate (G.sg k).wd.toNat [blk (G.sg k).net]).flatten := hen.2
    have hcel0 : CelM w [] (k : Int) 0 (G.sg k).net (G.sg k).wd (encA (G.sg k).blank) (encB (G.sg k).blank) n₁ := .inr ⟨rfl, hb.1, hb.2.1⟩
    obtain ⟨tf, hfi⟩ := Sk.f1 hmem
    obtain ⟨hx0, hx1, hy0, hy1⟩ := hen.1
    have hsl := I1.fz _ I.ok.fsl
    have hsig := sigs_at G hk
    have hot := I1.fz _ I.ok.fot
    have hox := I1.fz _ I.ok.fox
    have hov := I1.fz _ I.ok.fov
    have hom := I1.fz _ I.ok.fom
    have hdov := I.ok.dov
    have hdom := I.ok.dom
    have hlov := I.ok.lov
    have hlom := I.ok.lom
    obtain ⟨ho1, ho2, ho3, ho4, ho5, ho6⟩ := I.ok.got
    have hsg := I1.fz _ (I.ok.fsg k hk)
    have hsd := I1.fz _ (I.ok.fsd k hk)
    dsimp only
    k_steps
    refine ret _ _ _ _ (by assumption) (by assumption) (fun q hq => ?_) (has_cons (by exact rfl) (has_cons (by exact rfl) (has_cons (by exact rfl) (has_cons (by exact rfl) (has_nil)))))
    have := hsub q (sub0 q hq)
    repeat (first | assumption | refine List.mem_cons_of_mem _ ?_ | refine List.mem_append_right _ ?_)
end
section
local macro_rules | `(tactic| walk_at "no such place") => `(tactic| fail "none")
local macro_rules | `(tactic| walk_at "exec For Name Call cons nil") => `(tactic| (k_here; (rename Fr _ _ _ _ => lF'); (with_unfolding_all refine' For_invVF lF' ?k1 ?k2 ?_; (case k1 => exact rfl); (case k2 => exact rfl); k_whole)))
local macro_rules | `(tactic| walk_at "exec For Name Attribute cons nil") => `(tactic| (k_here; (rename Fr _ _ _ _ => lF'); (with_unfolding_all refine' For_invVF lF' ?k1 ?k2 ?_; (case k1 => exact rfl); (case k2 => exact rfl); k_whole)))
local macro_rules | `(tactic| walk_at "pyIter ref") => `(tactic| (k_here; refine' hold_out ?_))
local macro_rules | `(tactic| walk_at "call ref") => `(tactic| (k_here; k_dflt (refine' con_use (con_isnet ?hk1) ?B ?F ?X ?N ?T ?K ?hp ?hd ?hu ?_; (case B => k_asm); (case F => k_asm); (case X => k_asm); (case N => k_asm); (case T => k_asm); (case K => first | exact rfl | assumption); (case hd => ktr_room); (case hu => ktr_units); (case hp => exact ⟨by k_mem, by k_mem⟩); (case hk1 => assumption); k_whole); intro r' news' h' tk' F' N' hpost; (obtain ⟨hr', tl', hn'⟩ := hpost); subst hn'; subst hr'; (try k_fold)))
local macro_rules | `(tactic| walk_at "call ref") => `(tactic| (k_here; k_dflt (refine' con_use (con_codes ?hn ?hn4 ?hx ?hx2 ?hy ?hy2) ?B ?F ?X ?N ?T ?K ?m1 ?hd ?hu ?_; (case B => k_asm); (case F => k_asm); (case X => k_asm); (case N => k_asm); (case T => k_asm); (case K => first | exact rfl | assumption); (case hd => ktr_room); (case hu => ktr_units); (case m1 => k_mem); (case hn => omega); (case hn4 => omega); (case hx => omega); (case hx2 => omega); (case hy => omega); (case hy2 => omega); k_whole); intro r' news' h' tk' F' N' hpost; (obtain ⟨ra', vs', nn', hr', hn', hi'⟩ := hpost); subst hn'; subst hr'; (try k_fold)))
local macro_rules | `(tactic| walk_at "compareOp NotEq ref ref") => `(tactic| (k_here; (with_reducible show wpAny _ _ (compareOp CmpOp.NotEq (Value.ref _) (Value.ref _)) _ _ _); k_dflt (refine' ne_ints_same ?N ?ha ?hb ?hi ?hj ?hu ?_; (case N => k_asm); (case ha => k_mem); (case hb => k_mem); (case hi => (first | with_reducible assumption | (rename (codesV _ _ _ = _) => he9; rw [he9]; assumption))); (case hj => (first | with_reducible assumption | (rename (codesV _ _ _ = _) => he9; rw [he9]; assumption))); (case hu => ktr_units); k_whole)))
local macro_rules | `(tactic| walk_at "call ref") => `(tactic| (k_here; k_dflt (refine' con_use (con_get ?hs1 ?hs2 ?hs3 ?hk0 ?hk3 ?hsig ?hdv ?lov ?hnm ?hkd ?hwd ?hw1 ?hw4) ?B ?F ?X ?N ?T ?K ⟨⟨?m1, ?m2, ?m3, ?m4, ?m5, ?m6⟩, ?cel⟩ ?hd ?hu ?_; (case B => k_asm); (case F => k_asm); (case X => k_asm); (case N => k_asm); (case T => k_asm); (case K => first | exact rfl | assumption); (case hd => ktr_room); (case hu => ktr_units); (case m1 => k_mem); (case m2 => k_mem); (case hs1 => assumption); (case hs2 => assumption); (case hs3 => assumption); (case m3 => k_mem); (case m4 => k_mem); (case hsig => assumption); (case m5 => k_mem); (case m6 => k_mem); (case hdv => assumption); (case lov => assumption); (case hnm => assumption); (case hkd => assumption); (case hwd => assumption); (case hk0 => omega); (case hk3 => omega); (case hw1 => omega); (case hw4 => omega); (case cel => exact Cel.subs (by assumption) (by intro q hq; repeat (first | exact hq | refine List.mem_cons_of_mem _ ?_ | refine List.mem_append_right _ ?_))); k_whole); intro r' news' h' tk' F' N' hpost; (obtain ⟨tl', b', u1', u2', u3', hn', hr', hb'⟩ := hpost); subst hn'; subst hr'; (try k_fold)))
local macro_rules | `(tactic| walk_at "call ref") => `(tactic| (k_here; k_dflt (refine' con_use (con_ismem_n ?hk1) ?B ?F ?X ?N ?T ?K ?hp ?hd ?hu ?_; (case B => k_asm); (case F => k_asm); (case X => k_asm); (case N => k_asm); (case T => k_asm); (case K => first | exact rfl | assumption); (case hd => ktr_room); (case hu => ktr_units); (case hp => exact ⟨by k_mem, by k_mem⟩); (case hk1 => assumption); k_whole); intro r' news' h' tk' F' N' hpost; (obtain ⟨hn', hr'⟩ := hpost); subst hn'; subst hr'; (try k_fold)))

set_option maxRecDepth 100000 in
set_option maxHeartbeats 8000000 in
theorem sigP {w : World} {p : Program} {loose : List Str} {mean : ExcName → Option Value} {mg mb : Str → Option Value} {qual : Str}
    {dp un : Nat} {gd : Option (List Code)} {a : Addr} {ccd : Value} {ca : Addr} {outer : List Env} {A₀ : Around} {base h₀ : Heap} {L : Addr} {s : Shared} {Q : Flow → Shared → Prop} {E : Value → Shared → Prop} {news : Led}
    (B : Below A₀ base outer h₀) (X : (Mine.hd.heap_39 w.params).In h₀) (N : News h₀ L s.heap news) (T : Top p loose mean mg mb h₀) (hd : dp + 50 < recursionLimit) (hu : un + 600 < cLine)
   {G : Gs} {ρ : Addr → Option Nat} {f : List Int → Option Value} {waF : Nat → Option Addr} {n nh : Nat} {tS tH : Nat → Int → List Int} (I : Inv w G ρ f waF n nh tS tS news) (Fu : Full G f tS) {k : Nat} (hk : k < 4) (hmem : (G.sg k).mem = false)
   {u : Str → Option Value} (F : Fr h₀ L s.heap (fun y => if y = Str.ofString "signal" then some (.ref (G.sg k).sg) else if y = Str.ofString "store" then some (.ref G.st.st) else if y = Str.ofString "other" then some (.ref G.ot.st) else if y = Str.ofString "held" then some (.ref G.hh) else if y = Str.ofString "design" then some (.ref G.ds) else u y))
   (hE : PassesOwn (model PySem.Challenge.rw_pq0454_01.row.prog w) (ktrTop dp un gd qual lawP.1.2 L a ccd [(Str.ofString "source", ca)] outer) (envX qual lawP.1.2 L a ccd [(Str.ofString "source", ca)]) E)
   (ret : ∀ m' news' h' tk', Fr h₀ L h' m' → News h₀ L h' news' → (∀ q ∈ news, q ∈ news') → Has m' [(Str.ofString "store", .ref G.st.st), (Str.ofString "other", .ref G.ot.st), (Str.ofString "held", .ref G.hh), (Str.ofString "design", .ref G.ds)] → Q .next { s with heap := h', toks := tk' }) :
   wpAny (model PySem.Challenge.rw_pq0454_01.row.prog w) (ktrTop dp un gd qual lawP.1.2 L a ccd [(Str.ofString "source", ca)] outer) (execs sigB.1 (envX qual lawP.1.2 L a ccd [(Str.ofString "source", ca)])) Q E s := by
  dsimp only [sigB, lawP] at F hE ⊢
  revert X
  k_fill
  intro X
  have Sk := I.ok.sgs k hk
  obtain ⟨⟨tk0, hkey⟩, ⟨tkd, hkd⟩, ⟨twd, hwd⟩, hnm, him, hnw⟩ := Sk.is
  have hw1 := Sk.w1
  have hw4 := Sk.w4
  refine wpAny_execs_cons ?_
  refine blankT (tH := tS) B X N T hd hu I hk F hE (fun tb0 n0 h0 tk0 F0 N0 sub0 => ?_)
  dsimp only
  k_steps
  refine hold_in ?_
  rename IsRange _ _ _ _ _ _ _ _ => rg
  rename Fr _ _ _ _ => F5
  rename News _ _ _ _ => N5
  refine range_rule (n := 6) (fun i m' n' => (∀ q ∈ n0, q ∈ n') ∧ ∃ tb, Has m' [(Str.ofString "store", .ref G.st.st), (Str.ofString "held", .ref G.hh), (Str.ofString "signal", .ref (G.sg k).sg), (Str.ofString "blank", .int (blk (G.sg k).net) tb), (Str.ofString "other", .ref G.ot.st), (Str.ofString "design", .ref G.ds)]) rfl rg (by decide) (by decide) F5 N5 ⟨fun q hq => hq, _, (has_cons (by exact rfl) (has_cons (by exact rfl) (has_cons (by exact rfl) (has_cons (by exact rfl) (has_cons (by exact rfl) (has_cons (by exact rfl) (has_nil)))))))⟩ ?turn ?done
  case turn =>
    rintro i m₁ n₁ It it t h tk hi ⟨hsub, tb, hps⟩ hic hoff F9 N9
    have F1 : Fr h₀ L h (fun y => if y = Str.ofString "spot" then some (.int (-1 + (i : Int)) t) else if y = Str.ofString "store" then some (.ref G.st.st) else if y = Str.ofString "held" then some (.ref G.hh) else if y = Str.ofString "signal" then some (.ref (G.sg k).sg) else if y = Str.ofString "blank" then some (.int (blk (G.sg k).net) tb) else kstB m₁ [(Str.ofString "other", .ref G.ot.st), (Str.ofString "design", .ref G.ds)] y) := fr_has F9 hps
    have I1 := I.mono (news' := (It, it) :: n₁) (fun q hq => .tail _ (hsub q (sub0 q hq)))
    have hen := enc_of Sk.w1 Sk.w4 (I.okS k hk 0)
    have hdu := I1.due0 Fu hk hmem
    obtain ⟨ov, kvs, hov, hdv, _, hcel⟩ := I1.vals
    have hcel := hcel k hk hmem
    have hfi := Sk.f0 hmem
    refine spotP (u := kstB m₁ [(Str.ofString "other", .ref G.ot.st), (Str.ofString "design", .ref G.ds)]) B X N9 T hd hu (I1.fz _ I.ok.fst) (I1.fz _ I.ok.fsx) I.ok.gst (I1.fz _ I.ok.fsl) (sigs_at G hk) (I1.fz _ (I.ok.fsg k hk)) (I1.fz _ (I.ok.fsd k hk)) Sk.is Sk.w1 Sk.w4 (by omega) (by omega) hov hdv I.ok.lv hfi hcel hen.1.1 hen.1.2.1 hen.1.2.2.1 hen.1.2.2.2 I1.held hdu F1 hE (fun m' n' h' tk' F' N' sub' off' => TurnPost.end (.inl rfl) F' N' (sub' _ (.head _)) ⟨drp_sub (fun q hq => sub' _ (.tail _ (hsub q hq))) hoff, tb, (has_cons (off_has off' (by decide) rfl) (has_cons (off_has off' (by decide) rfl) (has_cons (off_has off' (by decide) rfl) (has_cons (off_has off' (by decide) rfl) (has_cons (off_has off' (by decide) rfl) (has_cons (off_has off' (by decide) rfl) (has_nil)))))))⟩)
  case done =>
    rintro m₁ n₁ h tk ⟨hsub, tb, hps⟩ F9 N9
    have F1 : Fr h₀ L h (fun y => if y = Str.ofString "store" then some (.ref G.st.st) else if y = Str.ofString "held" then some (.ref G.hh) else if y = Str.ofString "signal" then some (.ref (G.sg k).sg) else if y = Str.ofString "blank" then some (.int (blk (G.sg k).net) tb) else if y = Str.ofString "other" then some (.ref G.ot.st) else if y = Str.ofString "design" then some (.ref G.ds) else m₁ y) := fr_has0 F9 hps
    have I1 := I.mono (fun q hq => hsub q (sub0 q hq))
    have N1 : News h₀ L h n₁ := N9
    clear F5 N5 rg F9 N9
    have hb := blank_of Sk.w1 Sk.w4
    have hen := enc_of Sk.w1 Sk.w4 hb.2.2
    have he9 : codesV (G.sg k).wd (encA (G.sg k).blank) (encB (G.sg k).blank) = (List.replicate (G.sg k).wd.toNat [blk (G.sg k).net]).flatten := hen.2
    have hcel0 : Cel [] (k : Int) (G.sg k).net (G.sg k).wd (encA (G.sg k).blank) (encB (G.sg k).blank) n₁ := .inr ⟨rfl, hb.1, hb.2.1⟩
    have hfi := Sk.f0 hmem
    obtain ⟨hx0, hx1, hy0, hy1⟩ := hen.1
    have hsl := I1.fz _ I.ok.fsl
    have hsig := sigs_at G hk
    have hot := I1.fz _ I.ok.fot
    have hox := I1.fz _ I.ok.fox
    have hov := I1.fz _ I.ok.fov
    have hom := I1.fz _ I.ok.fom
    have hdov := I.ok.dov
    have hdom := I.ok.dom
    have hlov := I.ok.lov
    have hlom := I.ok.lom
    obtain ⟨ho1, ho2, ho3, ho4, ho5, ho6⟩ := I.ok.got
    have hsg := I1.fz _ (I.ok.fsg k hk)
    have hsd := I1.fz _ (I.ok.fsd k hk)
    dsimp only
    k_steps
    refine ret _ _ _ _ (by assumption) (by assumption) (fun q hq => ?_) (has_cons (by exact rfl) (has_cons (by exact rfl) (has_cons (by exact rfl) (has_cons (by exact rfl) (has_nil)))))
    have := hsub q (sub0 q hq)
    repeat (first | assumption | refine List.mem_cons_of_mem _ ?_ | refine List.mem_append_right _ ?_)
end
section

section
variable {w : World} {G : Gs} {ρ : Addr → Option Nat} {f : List Int → Option Value} {waF : Nat → Option Addr} {n nh : Nat} {tS tH : Nat → Int → List Int} {news news' : Led} {h₀ h : Heap} {L : Addr}
theorem Inv.take (I : Inv w G ρ f waF n nh tS tH news) (N : News h₀ L h news) (S : Src G.src G.lst news') (hk : ∀ q ∈ news, q.1 ≠ G.src → q.1 ≠ G.lst → q ∈ news') : Inv w G ρ f waF n nh tS tH news' := by
  have hrole : ∀ q ∈ news, ∀ r, ρ q.1 = some r → r ≠ 1 → r ≠ 2 → q ∈ news' := fun q hq r h1 h2 h3 => hk q hq (fun e => by rw [e, I.ok.rsrc] at h1; injection h1 with h1; exact h2 h1.symm) (fun e => by rw [e, I.ok.rlst] at h1; injection h1 with h1; exact h3 h1.symm)
  have hcls : ∀ q ∈ news, q.2.cls ≠ .type "list" → q ∈ news' := by
    intro q hq hc
    obtain ⟨cur, seed, t1, t2, n1, vs, ns, n2, m1, m2, _⟩ := I.src
    obtain ⟨a, o⟩ := q
    refine hk _ hq (fun e => ?_) (fun e => ?_)
    · have e' : a = G.src := e
      subst e'
      exact hc (led_fun N m1 hq ▸ rfl)
    · have e' : a = G.lst := e
      subst e'
      exact hc (led_fun N m2 hq ▸ rfl)
  have ht : ∀ q ∈ news, q.2.cls = .type "tuple" → q ∈ news' := fun q hq hc => hcls q hq (by rw [hc]; decide)
  obtain ⟨cur, seed, t1, t2, n1, vs, ns, n2, m1, m2, _⟩ := id S
  refine ⟨I.ok, S, fun q hq => hrole q (I.fz q hq) 0 (I.ok.rfz q hq) (by decide) (by decide), fun a r h1 h2 => ?_, ?_, ?_, I.waN, I.waI, I.held.keep (fun o hm => hrole _ hm 5 I.ok.rhh (by decide) (by decide)) fun a o hm hc => ht _ hm hc, fun k hk4 s v hf => ?_, I.okS, I.okH⟩
  · by_cases h3 : r = 1 ∨ r = 2
    · by_cases e : a = G.src
      · subst e
        exact ⟨_, m1, by exact fun e => absurd (Value.type.inj e) (by decide), by exact fun e => absurd (Value.type.inj e) (by decide)⟩
      · by_cases e : a = G.lst
        · subst e
          exact ⟨_, m2, by exact fun e => absurd (Value.type.inj e) (by decide), by exact fun e => absurd (Value.type.inj e) (by decide)⟩
        · obtain ⟨o, hm, hc⟩ := I.dom a r h1 h2
          exact ⟨o, hk _ hm ‹_› e, hc⟩
    · obtain ⟨o, hm, hc⟩ := I.dom a r h1 h2
      exact ⟨o, hrole _ hm r h1 (fun e => h3 (.inl e)) (fun e => h3 (.inr e)), hc⟩
  · obtain ⟨ov, kvs, m, d, l, c⟩ := I.vals
    exact ⟨ov, kvs, hrole _ m 3 I.ok.rvd (by decide) (by decide), d, l, fun k hk hm => (c k hk hm).sub ht⟩
  · obtain ⟨om, kvm, m, d, l, c⟩ := I.mems
    refine ⟨om, kvm, hrole _ m 4 I.ok.rmd (by decide) (by decide), d, l, fun k hk hm => (c k hk hm).keep ht fun wa ow h1 hmm => ?_⟩
    obtain ⟨_, ow', hm', hc'⟩ := I.wa hk hm h1
    exact hcls _ hmm (by rw [led_fun N hmm hm', hc']; decide)
  · obtain ⟨a, vs, nn, e, m, r, e2, b⟩ := I.rows k hk4 s v hf
    exact ⟨a, vs, nn, e, hrole _ m _ e2 (by omega) (by omega), r, e2, b⟩
theorem Inv.srcne (I : Inv w G ρ f waF n nh tS tH news) : @Ne Nat G.src G.lst := fun e => by
  have h1 := I.ok.rsrc
  rw [show G.src = G.lst from e, I.ok.rlst] at h1
  injection h1 with h1
  exact absurd h1 (by decide)
theorem Inv.fresh (I : Inv w G ρ f waF n nh tS tH news) {b : Addr} (hb : ∀ q ∈ news, q.1 ≠ b) : ρ b = none := by
  cases hr : ρ b with
  | none => rfl
  | some r =>
    by_cases h0 : r = 0
    · subst h0
      obtain ⟨o, ho⟩ := I.ok.r0 b hr
      exact absurd rfl (hb _ (I.fz _ ho))
    · obtain ⟨o, hm, _⟩ := I.dom b r hr h0
      exact absurd rfl (hb _ hm)
end
theorem take_inv {w : World} {p : Program} {loose : List Str} {mean : ExcName → Option Value} {mg mb : Str → Option Value}{G : Gs} {ρ : Addr → Option Nat} {f : List Int → Option Value} {waF : Nat → Option Addr} {n nh : Nat} {tS tH : Nat → Int → List Int} {most : Int} {t4 : Tok}
    {dp un : Nat} {gd : Option (List Code)} {cn : Str} {cs : Scope} {a : Addr} {ccd : Value} {cl : List (Str × Addr)} {outer : List Env} {A₀ : Around} {base h₀ : Heap} {L : Addr} {m : Str → Option Value} {news : Led} {s : Shared} {Q E : Value → Shared → Prop}
    (I : Inv w G ρ f waF n nh tS tH news) (B : Below A₀ base outer h₀) (F : Fr h₀ L s.heap m) (X : (Mine.hd.heap_39 w.params).In h₀) (N : News h₀ L s.heap news) (T : Top p loose mean mg mb h₀) (hk : cs.kind = .function) (hd : dp + 3 < recursionLimit) (hu : un + 160 < cLine)
    (hm : 1 ≤ most) (hm2 : most ≤ 64)
    (ret : ∀ found u3 news' h' tk', Fr h₀ L h' m → News h₀ L h' news' → Inv w G ρ f waF n nh tS tH news' → (∀ q ∈ news, q.1 ≠ G.src → q.1 ≠ G.lst → q ∈ news') → 0 ≤ found → found < most → Q (.int found u3) { s with heap := h', toks := tk' }) :
    wpAny (model PySem.Challenge.rw_pq0454_01.row.prog w) (ktrTop dp un gd cn cs L a ccd cl outer) (call (.ref 245) [.ref G.src, .int most t4]) Q E s :=
  take_src I.src I.srcne B F X N T hk hd hu hm hm2 fun found u3 news' h' tk' F' N' S' hkeep h1 h2 => ret found u3 news' h' tk' F' N' (I.take N S' hkeep) hkeep h1 h2

set_option maxRecDepth 100000 in
noncomputable def lapB : { b : List Stmt // stB lawP.1.1 8 = b } := by
  refine' ⟨?b, ?h⟩
  case h => (dsimp only [lawP, stB, forB, List.drop, List.getElem?_cons_succ, List.getElem?_cons_zero]; exact rfl)

set_option maxRecDepth 100000 in
noncomputable def lapRB : { b : List Stmt // (stB lawP.1.1 8).drop 1 = b } := by
  refine' ⟨?b, ?h⟩
  case h => (dsimp only [lawP, stB, forB, List.drop, List.getElem?_cons_succ, List.getElem?_cons_zero]; exact rfl)

theorem sigs_at' (G : Gs) {k : Int} (h0 : 0 ≤ k) (hk : k < 4) : G.sigs.toArray[k.toNat]? = some (.ref (G.sg k.toNat).sg) := by
  have := sigs_at G (k := k.toNat) (by omega)
  rwa [show ((k.toNat : Nat) : Int).toNat = k.toNat from by omega] at this
end
section

theorem lc_off1 {D : Addr} : ∀ {l : Led}, LCg.Off1 D l → ∀ q ∈ l, q.1 ≠ D
  | [], _, _, hq => nomatch hq
  | p :: r, h, q, hq => by
    rcases List.mem_cons.mp hq with rfl | hq
    · exact h.1
    · exact lc_off1 h.2 q hq
theorem Src.sub {src lst : Addr} {news news' : Led} (S : Src src lst news) (h : ∀ q ∈ news, q ∈ news') : Src src lst news' := by
  obtain ⟨cur, seed, t1, t2, n1, vs, ns, n2, m1, m2, r⟩ := S
  exact ⟨cur, seed, t1, t2, n1, vs, ns, n2, h _ m1, h _ m2, r⟩
theorem comp_rest {prog : Program} {w : World} {A : Around} {h₀ : Heap} {L : Addr} {m : Str → Option Value} {env : Env} {elt : PySem.Expr} {x : Str} {scope : Scope} {cl : List (Str × Addr)} {s : Shared} {S : Led → Prop} {P : Nat → Value → Prop} {Fin : List Value → Led → Prop} {news : Led} {n : Nat} (J : Led → Prop)
    (h0 : J news)
    (turn : ∀ v I oI C oC D m₂ ys h tk (E' : Value → Shared → Prop) news, J news → LCg.NsObj oC m₂ → m₂ x = some v → Fr h₀ L h m → News h₀ L h ((I, oI) :: (C, oC) :: (D, LCg.lst ys) :: news) → LCg.Off3 I C D news → ((@Ne Nat I C) ∧ (@Ne Nat I D) ∧ (@Ne Nat C D)) →
      wpAny (model prog w) A (eval elt (compEnvC scope cl C env)) (LCg.CompEnd h₀ L m { s with heap := h, toks := tk } I oI C oC D (LCg.lst ys) S (fun y news' => (∃ c t, y = .int c t ∧ 0 ≤ c ∧ c < 4) ∧ J news')) E' { s with heap := h, toks := tk })
    (fin : ∀ ys cs news, IntsAre ys cs → cs.length = n → (∀ c ∈ cs, 0 ≤ c ∧ c < 4) → J news → Fin ys news) : LCg.CompRest prog w A h₀ L m env elt x scope cl s S P Fin n 0 [] news := by
  have key : ∀ (j i : Nat) (ys : List Value) (cs : List Int) (news : Led), i + j = n → IntsAre ys cs → cs.length = i → (∀ c ∈ cs, 0 ≤ c ∧ c < 4) → J news → LCg.CompRest prog w A h₀ L m env elt x scope cl s S P Fin j i ys news := by
    intro j
    induction j with
    | zero =>
      intro i ys cs news hi hy hl hc hJ
      exact LCg.CompRest.zero (fin ys cs news hy (by omega) hc hJ)
    | succ j ih =>
      intro i ys cs news hi hy hl hc hJ
      refine LCg.CompRest.succ ?_
      intro v I oI C oC D m₂ h tk E' hv hC hx F N off ne
      refine wpAny_mono (turn v I oI C oC D m₂ ys h tk E' news hJ hC hx F N off ne) (fun y s₂ hq => ?_) fun _ _ e => e
      obtain ⟨h', tk', nw, e, F', N', off', hS, ⟨c, t, hy', hc0, hc4⟩, hJ'⟩ := hq
      refine ⟨h', tk', nw, e, F', N', off', hS, ?_⟩
      rw [hy']
      refine ih (i + 1) _ (cs ++ [c]) nw (by omega) (IntsAre.append hy (.cons c t .nil)) (by simp; omega) (fun c' hc' => ?_) hJ'
      rcases List.mem_append.mp hc' with h | h
      · exact hc c' h
      · rw [List.mem_singleton.mp h]; exact ⟨hc0, hc4⟩
  exact key n 0 [] [] news (by omega) .nil rfl (fun c hc => nomatch hc) h0
section
variable {w : World} {G : Gs} {ρ : Addr → Option Nat} {f : List Int → Option Value} {waF : Nat → Option Addr} {n nh : Nat} {tS tH : Nat → Int → List Int} {news news' : Led} {h₀ h : Heap} {L : Addr}
theorem comp_end {h1 : Heap} {m : Str → Option Value} {s₁ : Shared} {tk1 : Nat} {I C D : Addr} {oI oC oD : Obj} {news1 news0 : Led} {c : Int} {t : Tok} (hkp0 : ∀ q ∈ news0, q.1 ≠ G.src → q.1 ≠ G.lst → q ∈ news) (I0 : Inv w G ρ f waF n nh tS tH news) (N0 : News h₀ L h ((I, oI) :: (C, oC) :: (D, oD) :: news)) (off : LCg.Off3 I C D news)
    (S' : Src G.src G.lst news1) (hk : ∀ q ∈ (I, oI) :: (C, oC) :: (D, oD) :: news, q.1 ≠ G.src → q.1 ≠ G.lst → q ∈ news1) (F1 : Fr h₀ L h1 m) (N1 : News h₀ L h1 news1) (hc0 : 0 ≤ c) (hc4 : c < 4) :
    LCg.CompEnd h₀ L m s₁ I oI C oC D oD (fun _ => True) (fun y news' => (∃ c t, y = .int c t ∧ 0 ≤ c ∧ c < 4) ∧ Inv w G ρ f waF n nh tS tH news' ∧ ∀ q ∈ news0, q.1 ≠ G.src → q.1 ≠ G.lst → q ∈ news') (.int c t) { s₁ with heap := h1, toks := tk1 } := by
  have hoff := off.mem
  obtain ⟨_, _, _, _, _, _, _, _, m1, m2, _⟩ := id I0.src
  have hs := hoff _ m1
  have hl := hoff _ m2
  have hmem : ∀ q, q ∈ drp I (drp C (drp D news1)) ↔ q ∈ news1 ∧ q.1 ≠ D ∧ q.1 ≠ C ∧ q.1 ≠ I := fun q => by
    rw [mem_drp, mem_drp, mem_drp]
    constructor
    · rintro ⟨⟨⟨a, b⟩, c⟩, d⟩; exact ⟨a, b, c, d⟩
    · rintro ⟨a, b, c, d⟩; exact ⟨⟨⟨a, b⟩, c⟩, d⟩
  refine LCg.CompEnd.intro F1 N1 (drp I (drp C (drp D news1))) (fun q hq => ?_) (LCg.Off3.of fun q hq => ?_) trivial ⟨⟨c, t, rfl, hc0, hc4⟩, ?_, fun q hq a1 a2 => (hmem q).mpr ⟨hk q (.tail _ (.tail _ (.tail _ (hkp0 q hq a1 a2)))) a1 a2, (hoff q (hkp0 q hq a1 a2)).2.2, (hoff q (hkp0 q hq a1 a2)).2.1, (hoff q (hkp0 q hq a1 a2)).1⟩⟩
  · rcases List.mem_cons.mp hq with rfl | hq
    · exact hk _ (.head _) (fun e => hs.1 e.symm) (fun e => hl.1 e.symm)
    · rcases List.mem_cons.mp hq with rfl | hq
      · exact hk _ (.tail _ (.head _)) (fun e => hs.2.1 e.symm) (fun e => hl.2.1 e.symm)
      · rcases List.mem_cons.mp hq with rfl | hq
        · exact hk _ (.tail _ (.tail _ (.head _))) (fun e => hs.2.2 e.symm) (fun e => hl.2.2 e.symm)
        · exact ((hmem q).mp hq).1
  · obtain ⟨_, a, b, c⟩ := (hmem q).mp hq
    exact ⟨c, b, a⟩
  · have N0' : News h₀ L h news := fun q hq => N0 q (.tail _ (.tail _ (.tail _ hq)))
    refine I0.take N0' ?_ fun q hq a1 a2 => (hmem q).mpr ⟨hk q (.tail _ (.tail _ (.tail _ hq))) a1 a2, (hoff q hq).2.2, (hoff q hq).2.1, (hoff q hq).1⟩
    obtain ⟨cur, seed, t1, t2, n1, vs, ns, n2, m1', m2', r⟩ := S'
    exact ⟨cur, seed, t1, t2, n1, vs, ns, n2, (hmem _).mpr ⟨m1', hs.2.2, hs.2.1, hs.1⟩, (hmem _).mpr ⟨m2', hl.2.2, hl.2.1, hl.1⟩, r⟩
end
theorem range3 {k : Nat} (hk : k < 3) : Builtin.Range.small 0 (1 + (k : Int)) 1 = true ∧ Builtin.Range.rangeSize 0 (1 + (k : Int)) 1 = ((1 + k : Nat) : Int) := by
  have : k = 0 ∨ k = 1 ∨ k = 2 := by omega
  rcases this with rfl | rfl | rfl <;> decide

set_option maxRecDepth 100000 in
noncomputable def lapEB : { b : List Stmt // (stB lawP.1.1 8).drop 5 = b } := by
  refine' ⟨?b, ?h⟩
  case h => (dsimp only [lawP, stB, forB, List.drop, List.getElem?_cons_succ, List.getElem?_cons_zero]; exact rfl)

set_option maxRecDepth 100000 in
noncomputable def lapPB : { b : Stmt // (stB lawP.1.1 8)[4]? = some b } := by
  refine' ⟨?b, ?h⟩
  case h => (dsimp only [lawP, stB, forB, List.drop, List.getElem?_cons_succ, List.getElem?_cons_zero]; exact rfl)
end
section
local macro_rules | `(tactic| k_mem) => `(tactic| exact Inv.fz (by assumption) _ (by assumption))
local macro_rules | `(tactic| walk_at "call ref") => `(tactic| (k_here; k_dflt (refine' take_src (Src.sub ?S ?hs) ?ne ?B ?F ?X ?N ?T ?K ?hd ?hu ?hm ?hm2 ?_; (case B => k_asm); (case F => k_asm); (case X => k_asm); (case N => k_asm); (case T => k_asm); (case K => first | exact rfl | assumption); (case hd => ktr_room); (case hu => ktr_units); (case S => assumption); (case hs => (intro q hq; repeat (first | exact hq | refine List.mem_cons_of_mem _ ?_ | refine List.mem_append_right _ ?_))); (case ne => exact Inv.srcne (by assumption)); (case hm => omega); (case hm2 => omega)); (intro found' u3' news' h' tk' F' N' S' hkp' hf0 hf1); (try k_fold)))
local macro_rules | `(tactic| walk_at "CompSrc") => `(tactic| (k_here; refine' hold_out ?_))
local macro_rules | `(tactic| walk_at "CompEnd") => `(tactic| (refine' hold_out ?_))

set_option maxRecDepth 100000 in
set_option maxHeartbeats 8000000 in
theorem lapP {w : World} {p : Program} {loose : List Str} {mean : ExcName → Option Value} {mg mb : Str → Option Value} {qual : Str}
    {dp un : Nat} {gd : Option (List Code)} {a : Addr} {ccd : Value} {ca : Addr} {outer : List Env} {A₀ : Around} {base h₀ : Heap} {L : Addr} {s : Shared} {Q : Flow → Shared → Prop} {E : Value → Shared → Prop} {news : Led}
    (B : Below A₀ base outer h₀) (X : (Mine.hd.heap_39 w.params).In h₀) (N : News h₀ L s.heap news) (T : Top p loose mean mg mb h₀) (hd : dp + 50 < recursionLimit) (hu : un + 600 < cLine)
   {G : Gs} {ρ : Addr → Option Nat} {f : List Int → Option Value} {waF : Nat → Option Addr} {n nh : Nat} {tS tH : Nat → Int → List Int} (I : Inv w G ρ f waF n nh tS tS news)
   {u : Str → Option Value} {k : Nat} {low : Int} {tw : Tok} {x : Value} (F : Fr h₀ L s.heap (fun y => if y = Str.ofString "low" then some (.int low tw) else if y = Str.ofString "spot" then some (x) else if y = Str.ofString "signal" then some (.ref (G.sg k).sg) else if y = Str.ofString "store" then some (.ref G.st.st) else if y = Str.ofString "other" then some (.ref G.ot.st) else if y = Str.ofString "held" then some (.ref G.hh) else if y = Str.ofString "design" then some (.ref G.ds) else u y))
   (hca : G.ca = ca)
   (hE : PassesOwn (model PySem.Challenge.rw_pq0454_01.row.prog w) (ktrTop dp un gd qual lawP.1.2 L a ccd [(Str.ofString "source", ca)] outer) (envX qual lawP.1.2 L a ccd [(Str.ofString "source", ca)]) E)
   (ret : ∀ (ys : List Value) (cs : List Int) (ny : Nat) (pa : Addr) (u' : Str → Option Value) (news' : Led) (h' : Heap) (tk' : Nat), IntsAre ys cs → 1 ≤ cs.length → cs.length ≤ 3 → (∀ c ∈ cs, 0 ≤ c ∧ c < 4) → Inv w G ρ f waF n nh tS tS news' → (∀ q ∈ news, q.1 ≠ G.src → q.1 ≠ G.lst → q ∈ news') → (∀ q ∈ news', q.1 ≠ pa) → Fr h₀ L h' (fun y => if y = Str.ofString "part" then some (.ref pa) else if y = Str.ofString "low" then some (.int low tw) else if y = Str.ofString "spot" then some (x) else if y = Str.ofString "signal" then some (.ref (G.sg k).sg) else if y = Str.ofString "store" then some (.ref G.st.st) else if y = Str.ofString "other" then some (.ref G.ot.st) else if y = Str.ofString "held" then some (.ref G.hh) else if y = Str.ofString "design" then some (.ref G.ds) else u' y) → News h₀ L h' ((pa, listOf ys.toArray ny) :: news') → Q .next { s with heap := h', toks := tk' }) :
   wpAny (model PySem.Challenge.rw_pq0454_01.row.prog w) (ktrTop dp un gd qual lawP.1.2 L a ccd [(Str.ofString "source", ca)] outer) (exec lapPB.1 (envX qual lawP.1.2 L a ccd [(Str.ofString "source", ca)])) Q E s := by
  dsimp only [lapPB, lawP] at F hE ⊢
  revert X
  k_fill
  intro X
  obtain ⟨co, hfca, hcd⟩ := I.ok.fca
  rw [hca] at hfca
  have S0 := I.src
  show wpAny _ _ _ (fun f s' => Q f s') (fun e s' => E e s') _
  k_fold
  k_steps
  rename Src _ _ _ => S5
  rename (∀ q ∈ news, _ → _ → _) => hkp5
  have I5 := I.take N S5 hkp5
  refine hold_in ?_
  rename IsRange _ _ _ _ _ _ _ _ => rg
  rename Fr _ _ _ _ => F5
  rename News _ _ _ _ => N5
  rename (0 ≤ (_ : Int)) => hq0
  rename ((_ : Int) < 3) => hq3
  obtain ⟨c0, rfl⟩ := Int.eq_ofNat_of_zero_le hq0
  have hc0 : c0 < 3 := by omega
  refine LCg.CompSrc.range rfl F5 N5 rg (range3 hc0).1 (range3 hc0).2 (by rw [sizeLine_eq]; omega) (fun g => comp_rest (fun n' => Inv w G ρ f waF n nh tS tS n' ∧ ∀ q ∈ news, q.1 ≠ G.src → q.1 ≠ G.lst → q ∈ n') ⟨I5, hkp5⟩ ?turn ?fin)
  case turn =>
    intro v It oI C oC D m₂ ys h tk E' n₁ ⟨I1, hkp1⟩ hC hx F9 N9 off ne
    have S1 := I1.src
    have hca1 := I1.fz _ hfca
    k_steps
    refine hold_in ?_
    exact comp_end hkp1 I1 N9 off (by assumption) (by assumption) (by assumption) (by assumption) (by assumption) (by assumption)
  case fin =>
    intro ys cs n₁ hi hl hc ⟨I1, hkp1⟩
    unfold LCg.FinA
    intro D h' tk' F' N' o1
    dsimp only
    k_steps
    exact ret ys cs ys.length D _ n₁ h' tk' hi (by omega) (by omega) hc I1 hkp1 (lc_off1 o1) F' N'
end
section

def setN (r : List Int) (low : Int) (p : List Int) (wd : Int) : Nat → List Int
  | 0 => r
  | i + 1 => if 0 ≤ low + (i : Int) ∧ low + (i : Int) < wd ∧ (setN r low p wd i).getD (low + (i : Int)).toNat 0 ≠ p.getD i 0 then (setN r low p wd i).set (low + (i : Int)).toNat (p.getD i 0) else setN r low p wd i
def chN (r : List Int) (low : Int) (p : List Int) (wd : Int) : Nat → Bool
  | 0 => false
  | i + 1 => if 0 ≤ low + (i : Int) ∧ low + (i : Int) < wd ∧ (setN r low p wd i).getD (low + (i : Int)).toNat 0 ≠ p.getD i 0 then true else chN r low p wd i
def setA (r : List Int) (low : Int) (p : List Int) (wd : Int) : Nat → List Int
  | 0 => r
  | i + 1 => if 0 ≤ low + (i : Int) ∧ low + (i : Int) < wd then (setA r low p wd i).set (low + (i : Int)).toNat (p.getD i 0) else setA r low p wd i
theorem setN_len (r : List Int) (low : Int) (p : List Int) (wd : Int) : ∀ i, (setN r low p wd i).length = r.length
  | 0 => rfl
  | i + 1 => by
    unfold setN
    split
    · rw [List.length_set]; exact setN_len r low p wd i
    · exact setN_len r low p wd i
theorem setA_len (r : List Int) (low : Int) (p : List Int) (wd : Int) : ∀ i, (setA r low p wd i).length = r.length
  | 0 => rfl
  | i + 1 => by
    unfold setA
    split
    · rw [List.length_set]; exact setA_len r low p wd i
    · exact setA_len r low p wd i
theorem getD_lt {l : List Int} {n : Nat} (h : n < l.length) : l.getD n 0 = l[n] := by
  rw [List.getD_eq_getElem?_getD, List.getElem?_eq_getElem h]; rfl
theorem getD_ge {l : List Int} {n : Nat} (h : l.length ≤ n) : l.getD n 0 = 0 := by
  rw [List.getD_eq_getElem?_getD, List.getElem?_eq_none h]; rfl
theorem set_self {l : List Int} {n : Nat} (h : n < l.length) : l.set n (l.getD n 0) = l := by
  rw [getD_lt h]
  exact List.set_getElem_self h
theorem setN_A {r : List Int} {low : Int} {p : List Int} {wd : Int} (hw : (r.length : Int) = wd) : ∀ i, setN r low p wd i = setA r low p wd i
  | 0 => rfl
  | i + 1 => by
    have ih := setN_A (low := low) (p := p) hw i
    unfold setN setA
    rw [ih]
    by_cases h : 0 ≤ low + (i : Int) ∧ low + (i : Int) < wd
    · rw [if_pos h]
      by_cases h3 : (setA r low p wd i).getD (low + (i : Int)).toNat 0 ≠ p.getD i 0
      · rw [if_pos ⟨h.1, h.2, h3⟩]
      · rw [if_neg (fun x => h3 x.2.2)]
        have h3' : (setA r low p wd i).getD (low + (i : Int)).toNat 0 = p.getD i 0 := Classical.not_not.mp h3
        rw [← h3', set_self]
        rw [setA_len]; omega
    · rw [if_neg h, if_neg (fun x => h ⟨x.1, x.2.1⟩)]
theorem getD_map0 {g : Int → Int} (g0 : g 0 = 0) (l : List Int) (n : Nat) : (l.map g).getD n 0 = g (l.getD n 0) := by
  by_cases h : n < l.length
  · rw [getD_lt (by rw [List.length_map]; exact h), List.getElem_map, getD_lt h]
  · rw [getD_ge (by rw [List.length_map]; omega), getD_ge (by omega), g0]
theorem setA_map {g : Int → Int} (g0 : g 0 = 0) (r : List Int) (low : Int) (p : List Int) (wd : Int) : ∀ i, (setA r low p wd i).map g = setA (r.map g) low (p.map g) wd i
  | 0 => rfl
  | i + 1 => by
    unfold setA
    rw [← setA_map g0 r low p wd i, getD_map0 g0]
    split
    · rw [List.map_set]
    · rfl
def bit0 (c : Int) : Int := Builtin.bitAnd c 1
def bit1 (c : Int) : Int := c.fdiv (2 ^ 1)
def encL (l : List Int) : Int := (List.range l.length).foldl (fun a i => Builtin.bitOr a (l.getD i 0 * 2 ^ i)) 0
theorem encA_L (cs : List Int) : encA cs = encL (cs.map bit0) := by
  unfold encA encL
  rw [List.length_map]
  congr 1
  funext a i
  rw [getD_map0 (by decide)]
  rfl
theorem encB_L (cs : List Int) : encB cs = encL (cs.map bit1) := by
  unfold encB encL
  rw [List.length_map]
  congr 1
  funext a i
  rw [getD_map0 (by decide)]
  rfl
def planeOk (n pn : Nat) (low : Int) (r p : List Int) : Bool := decide (encL (setA r low p (n : Int) pn) = planeV (n : Int) low (pn : Int) (encL r) (encL p))
theorem planeOk1 : ∀ pn ∈ [1, 2, 3], ∀ low ∈ ([-1, 0, 1, 2, 3, 4] : List Int), ∀ r ∈ listsOf [0, 1] 1, ∀ p ∈ listsOf [0, 1] pn, planeOk 1 pn low r p = true := by decide +kernel
theorem planeOk2 : ∀ pn ∈ [1, 2, 3], ∀ low ∈ ([-1, 0, 1, 2, 3, 4] : List Int), ∀ r ∈ listsOf [0, 1] 2, ∀ p ∈ listsOf [0, 1] pn, planeOk 2 pn low r p = true := by decide +kernel
theorem planeOk3 : ∀ pn ∈ [1, 2, 3], ∀ low ∈ ([-1, 0, 1, 2, 3, 4] : List Int), ∀ r ∈ listsOf [0, 1] 3, ∀ p ∈ listsOf [0, 1] pn, planeOk 3 pn low r p = true := by decide +kernel
theorem planeOk4 : ∀ pn ∈ [1, 2, 3], ∀ low ∈ ([-1, 0, 1, 2, 3, 4] : List Int), ∀ r ∈ listsOf [0, 1] 4, ∀ p ∈ listsOf [0, 1] pn, planeOk 4 pn low r p = true := by decide +kernel
theorem plane_law {n : Nat} {low : Int} {r p : List Int} (hn : n ∈ [1, 2, 3, 4]) (hr : r.length = n) (hr2 : ∀ c ∈ r, c ∈ ([0, 1] : List Int)) (h1 : 1 ≤ p.length) (h3 : p.length ≤ 3) (hp : ∀ c ∈ p, c ∈ ([0, 1] : List Int)) (l1 : -1 ≤ low) (l4 : low ≤ 4) :
    encL (setA r low p (n : Int) p.length) = planeV (n : Int) low (p.length : Int) (encL r) (encL p) := by
  have hl : low ∈ ([-1, 0, 1, 2, 3, 4] : List Int) := by
    have : low = -1 ∨ low = 0 ∨ low = 1 ∨ low = 2 ∨ low = 3 ∨ low = 4 := by omega
    simpa using this
  have hpn : p.length ∈ [1, 2, 3] := by
    have : p.length = 1 ∨ p.length = 2 ∨ p.length = 3 := by omega
    simpa using this
  have hrm := mem_listsOf hr hr2
  have hpm := mem_listsOf (n := p.length) rfl hp
  have hc : n = 1 ∨ n = 2 ∨ n = 3 ∨ n = 4 := by simpa using hn
  rcases hc with rfl | rfl | rfl | rfl
  · exact of_decide_eq_true (planeOk1 _ hpn _ hl _ hrm _ hpm)
  · exact of_decide_eq_true (planeOk2 _ hpn _ hl _ hrm _ hpm)
  · exact of_decide_eq_true (planeOk3 _ hpn _ hl _ hrm _ hpm)
  · exact of_decide_eq_true (planeOk4 _ hpn _ hl _ hrm _ hpm)
theorem bit0_01 {c : Int} (h : 0 ≤ c ∧ c < 4) : bit0 c ∈ ([0, 1] : List Int) := by
  have : c = 0 ∨ c = 1 ∨ c = 2 ∨ c = 3 := by omega
  rcases this with rfl | rfl | rfl | rfl <;> decide
theorem bit1_01 {c : Int} (h : 0 ≤ c ∧ c < 4) : bit1 c ∈ ([0, 1] : List Int) := by
  have : c = 0 ∨ c = 1 ∨ c = 2 ∨ c = 3 := by omega
  rcases this with rfl | rfl | rfl | rfl <;> decide
theorem setN_ok {S : Sg} {r : List Int} {low : Int} {p : List Int} (h : RowOk S r) (hp : ∀ c ∈ p, 0 ≤ c ∧ c < 4) : ∀ i, RowOk S (setN r low p S.wd i)
  | 0 => h
  | i + 1 => by
    have ih := setN_ok (low := low) h hp i
    unfold setN
    split
    · refine ⟨by rw [List.length_set]; exact ih.1, fun c hc => ?_⟩
      rcases List.mem_or_eq_of_mem_set hc with hc | hc
      · exact ih.2 c hc
      · rw [hc]
        by_cases hl : i < p.length
        · rw [getD_lt hl]; exact hp _ (List.getElem_mem hl)
        · rw [getD_ge (by omega)]; exact ⟨by decide, by decide⟩
    · exact ih
theorem setN_enc {S : Sg} {r : List Int} {low : Int} {p : List Int} (w1 : 1 ≤ S.wd) (w4 : S.wd ≤ 4) (h : RowOk S r) (h1 : 1 ≤ p.length) (h3 : p.length ≤ 3) (hp : ∀ c ∈ p, 0 ≤ c ∧ c < 4) (l1 : -1 ≤ low) (l4 : low ≤ 4) :
    encA (setN r low p S.wd p.length) = planeV S.wd low (p.length : Int) (encA r) (encA p) ∧ encB (setN r low p S.wd p.length) = planeV S.wd low (p.length : Int) (encB r) (encB p) := by
  obtain ⟨n, e, hn⟩ := wd_nat w1 w4
  have hl : r.length = n := by rw [h.1, e]; rfl
  rw [setN_A (by rw [hl, e])]
  rw [encA_L, encB_L, encA_L, encB_L, encA_L, encB_L, setA_map (by decide), setA_map (by decide), e]
  have a := plane_law (low := low) hn (r := r.map bit0) (p := p.map bit0) (by rw [List.length_map]; exact hl) (fun c hc => by obtain ⟨x, hx, rfl⟩ := List.mem_map.mp hc; exact bit0_01 (h.2 x hx)) (by rw [List.length_map]; exact h1) (by rw [List.length_map]; exact h3) (fun c hc => by obtain ⟨x, hx, rfl⟩ := List.mem_map.mp hc; exact bit0_01 (hp x hx)) l1 l4
  have b := plane_law (low := low) hn (r := r.map bit1) (p := p.map bit1) (by rw [List.length_map]; exact hl) (fun c hc => by obtain ⟨x, hx, rfl⟩ := List.mem_map.mp hc; exact bit1_01 (h.2 x hx)) (by rw [List.length_map]; exact h1) (by rw [List.length_map]; exact h3) (fun c hc => by obtain ⟨x, hx, rfl⟩ := List.mem_map.mp hc; exact bit1_01 (hp x hx)) l1 l4
  rw [List.length_map] at a b
  exact ⟨a, b⟩
theorem chN_false (r : List Int) (low : Int) (p : List Int) (wd : Int) : ∀ i : Nat, chN r low p wd i = false → setN r low p wd i = r
  | 0, _ => rfl
  | i + 1, h => by
    unfold chN at h
    unfold setN
    split at h
    · cases h
    · rename_i hn
      rw [if_neg hn]
      exact chN_false r low p wd i h
theorem setN_off (r : List Int) (low : Int) (p : List Int) (wd : Int) : ∀ (i n : Nat), low + (i : Int) ≤ (n : Int) → (setN r low p wd i).getD n 0 = r.getD n 0
  | 0, _, _ => rfl
  | i + 1, n, h => by
    have ih := setN_off r low p wd i n (by omega)
    unfold setN
    split
    · rename_i hc
      rw [← ih]
      have : (low + (i : Int)).toNat ≠ n := by omega
      simp only [List.getD_eq_getElem?_getD, List.getElem?_set_ne this]
    · exact ih
theorem chN_true {r : List Int} {low : Int} {p : List Int} {wd : Int} (hw : (r.length : Int) = wd) : ∀ i, chN r low p wd i = true → ∃ n : Nat, (n : Int) < low + (i : Int) ∧ (setN r low p wd i).getD n 0 ≠ r.getD n 0
  | 0, h => by cases h
  | i + 1, h => by
    unfold chN at h
    by_cases hc : 0 ≤ low + (i : Int) ∧ low + (i : Int) < wd ∧ (setN r low p wd i).getD (low + (i : Int)).toNat 0 ≠ p.getD i 0
    · refine ⟨(low + (i : Int)).toNat, by omega, ?_⟩
      unfold setN
      rw [if_pos hc]
      have hlt : (low + (i : Int)).toNat < (setN r low p wd i).length := by rw [setN_len]; omega
      have hoff := setN_off r low p wd i (low + (i : Int)).toNat (by omega)
      rw [← hoff]
      simp only [List.getD_eq_getElem?_getD, List.getElem?_set_self hlt, Option.getD_some]
      have := hc.2.2
      simp only [List.getD_eq_getElem?_getD] at this
      exact fun e => this e.symm
    · rw [if_neg hc] at h
      obtain ⟨n, h1, h2⟩ := chN_true hw i h
      refine ⟨n, by omega, ?_⟩
      unfold setN
      rw [if_neg hc]
      exact h2
theorem ch_iff {S : Sg} {r : List Int} {low : Int} {p : List Int} (w1 : 1 ≤ S.wd) (w4 : S.wd ≤ 4) (h : RowOk S r) (h1 : 1 ≤ p.length) (h3 : p.length ≤ 3) (hp : ∀ c ∈ p, 0 ≤ c ∧ c < 4) (l1 : -1 ≤ low) (l4 : low ≤ 4) :
    chN r low p S.wd p.length = false ↔ (planeV S.wd low (p.length : Int) (encA r) (encA p) = encA r ∧ planeV S.wd low (p.length : Int) (encB r) (encB p) = encB r) := by
  obtain ⟨ea, eb⟩ := setN_enc w1 w4 h h1 h3 hp l1 l4
  rw [← ea, ← eb]
  constructor
  · intro hc
    rw [chN_false _ _ _ _ _ hc]
    exact ⟨rfl, rfl⟩
  · rintro ⟨ha, hb⟩
    have c1 := (enc_of w1 w4 (setN_ok (low := low) h hp p.length)).2
    have c2 := (enc_of w1 w4 h).2
    have e : setN r low p S.wd p.length = r := by rw [← c1, ha, hb, c2]
    cases hc : chN r low p S.wd p.length with
    | false => rfl
    | true =>
      obtain ⟨n, _, hne⟩ := chN_true (by rw [h.1]; omega) _ hc
      rw [e] at hne
      exact absurd rfl hne
end
section

theorem list_set_led {prog : Program} {w : World} {A : Around} {E : Value → Shared → Prop} {s : Shared} {base : Heap} {L l : Addr} {m : Str → Option Value} {news : Led} {vs : List Value} {nn : Nat} {k : Int} {t : Tok} {v : Value} {Q : Unit → Shared → Prop}
    (F : Fr base L s.heap m) (N : News base L s.heap news) (hm : (l, listOf vs.toArray nn) ∈ news) (h0 : 0 ≤ k) (hn : k < vs.length) (hfit : vs.length ≤ 64)
    (h : ∀ h' n', Fr base L h' m → News base L h' ((l, listOf (vs.set k.toNat v).toArray n') :: drp l news) → Q () { s with heap := h' }) :
    wpAny (model prog w) A (setItem (.ref l) (.int k t) v) Q E s := by
  have hmm := N _ hm
  refine ki_setAt hmm.1 h0 (by omega) (by rw [List.size_toArray]; exact hn) ?_
  have q := PySem.IsL.update hmm.1 (·.setIfInBounds k.toNat v)
  rw [List.setIfInBounds_toArray] at q
  have hs : Heap.SameBut l s.heap (s.heap.update l (Obj.mapSeq (·.setIfInBounds k.toNat v))) := Heap.SameBut.update ..
  obtain ⟨n', q⟩ : ∃ n', (s.heap.update l (Obj.mapSeq (·.setIfInBounds k.toNat v))).get? l = some (listOf (vs.set k.toNat v).toArray n') := ⟨_, q⟩
  refine h _ n' (F.change hs hmm.2.1 hmm.2.2) fun p hp => ?_
  rcases List.mem_cons.mp hp with rfl | hp
  · exact ⟨q, hmm.2⟩
  · obtain ⟨h1, h3⟩ := mem_drp.mp hp
    exact ⟨(hs.2 _ h3).trans (N _ h1).1, (N _ h1).2⟩
theorem ints_set {vs : List Value} {ns : List Int} (h : IntsAre vs ns) : ∀ (n : Nat) (c : Int) (t : Tok), IntsAre (vs.set n (.int c t)) (ns.set n c) := by
  induction h with
  | nil => intro n c t; exact .nil
  | cons k t r ih =>
    intro n c t'
    cases n with
    | zero => exact .cons c t' r
    | succ n => exact .cons k t (ih n c t')
def tabSet (tab : Nat → Int → List Int) (k : Nat) (s : Int) (r : List Int) : Nat → Int → List Int := fun k' s' => if k' = k ∧ s' = s then r else tab k' s'
theorem tabSet_self {tab : Nat → Int → List Int} {k : Nat} {s : Int} : tabSet tab k s (tab k s) = tab := by
  funext k' s'
  unfold tabSet
  split
  · rename_i h; rw [h.1, h.2]
  · rfl
theorem tabSet_at {tab : Nat → Int → List Int} {k : Nat} {s : Int} {r : List Int} : tabSet tab k s r k s = r := if_pos ⟨rfl, rfl⟩
section
variable {w : World} {G : Gs} {ρ : Addr → Option Nat} {f : List Int → Option Value} {waF : Nat → Option Addr} {n nh : Nat} {tS tH : Nat → Int → List Int} {news news' : Led} {h₀ h : Heap} {L : Addr}
theorem list_tup {its : Array Value} {nn : Nat} : (listOf its nn).cls ≠ .type "tuple" := fun e => absurd (Value.type.inj e) (by decide)
theorem list_dict {its : Array Value} {nn : Nat} : (listOf its nn).cls ≠ .type "dict" := fun e => absurd (Value.type.inj e) (by decide)
theorem Inv.row (I : Inv w G ρ f waF n nh tS tH news) (N : News h₀ L h news) {k : Nat} (hk : k < 4) {s : Int} {a : Addr} {vs' : List Value} {nn' : Nat} {r' : List Int} (hf : f [(k : Int), s] = some (.ref a)) (hi : IntsAre vs' r') (hr : RowOk (G.sg k) r') :
    Inv w G ρ f waF n nh tS (tabSet tH k s r') ((a, listOf vs'.toArray nn') :: drp a news) := by
  obtain ⟨a', vs, nn, e, hm, hvs, hρ, hs0, hs1⟩ := I.rows k hk s _ hf
  injection e with e
  subst e
  have keep : ∀ q ∈ news, q.1 ≠ a → q ∈ (a, listOf vs'.toArray nn') :: drp a news := fun q hq hne => .tail _ (mem_drp.mpr ⟨hq, hne⟩)
  have hrole : ∀ q ∈ news, ∀ r, ρ q.1 = some r → r ≠ 100 + 100 * k + s.toNat → q ∈ (a, listOf vs'.toArray nn') :: drp a news := fun q hq r h1 h2 => keep q hq fun e => by rw [e, hρ] at h1; injection h1 with h1; exact h2 h1.symm
  have hcls : ∀ q ∈ news, q.2.cls ≠ .type "list" → q ∈ (a, listOf vs'.toArray nn') :: drp a news := by
    intro q hq hc
    obtain ⟨b, o⟩ := q
    refine keep _ hq fun e => ?_
    have e' : b = a := e
    subst e'
    exact hc (led_fun N hm hq ▸ rfl)
  have ht : ∀ q ∈ news, q.2.cls = .type "tuple" → q ∈ (a, listOf vs'.toArray nn') :: drp a news := fun q hq hc => hcls q hq (by rw [hc]; decide)
  refine ⟨I.ok, ?_, fun q hq => hrole q (I.fz q hq) 0 (I.ok.rfz q hq) (by omega), fun b r h1 h2 => ?_, ?_, ?_, I.waN, I.waI, I.held.keep (fun o hm => hrole _ hm 5 I.ok.rhh (by omega)) fun b o hm hc => ht _ hm hc, fun k2 hk2 s2 v hf2 => ?_, I.okS, fun k2 hk2 s2 => ?_⟩
  · obtain ⟨cur, seed, t1, t2, n1, vs, ns, n2, m1, m2, r⟩ := I.src
    exact ⟨cur, seed, t1, t2, n1, vs, ns, n2, hrole _ m1 1 I.ok.rsrc (by omega), hrole _ m2 2 I.ok.rlst (by omega), r⟩
  · by_cases e : b = a
    · subst e
      exact ⟨_, .head _, by exact fun e => absurd (Value.type.inj e) (by decide), by exact fun e => absurd (Value.type.inj e) (by decide)⟩
    · obtain ⟨o, hm, hc⟩ := I.dom b r h1 h2
      exact ⟨o, keep _ hm e, hc⟩
  · obtain ⟨ov, kvs, m, d, l, c⟩ := I.vals
    exact ⟨ov, kvs, hrole _ m 3 I.ok.rvd (by omega), d, l, fun k hk hm => (c k hk hm).sub ht⟩
  · obtain ⟨om, kvm, m, d, l, c⟩ := I.mems
    refine ⟨om, kvm, hrole _ m 4 I.ok.rmd (by omega), d, l, fun k hk hm => (c k hk hm).keep ht fun wa ow h1 hmm => ?_⟩
    obtain ⟨_, ow', hm', hc'⟩ := I.wa hk hm h1
    exact hcls _ hmm (by rw [led_fun N hmm hm', hc']; decide)
  · obtain ⟨b, vs2, nn2, e, m, r, e2, b0, b1⟩ := I.rows k2 hk2 s2 v hf2
    by_cases hc : k2 = k ∧ s2 = s
    · obtain ⟨rfl, rfl⟩ := hc
      rw [hf] at hf2
      injection hf2 with hf2
      exact ⟨a, vs', nn', hf2.symm, .head _, by rw [tabSet_at]; exact hi, hρ, hs0, hs1⟩
    · refine ⟨b, vs2, nn2, e, hrole _ m _ e2 (fun e => hc ?_), by unfold tabSet; rw [if_neg hc]; exact r, e2, b0, b1⟩
      omega
  · unfold tabSet
    split
    · rename_i hc; rw [hc.1]; exact hr
    · exact I.okH k2 hk2 s2
theorem Inv.dropIt (I : Inv w G ρ f waF n nh tS tH news) (N : News h₀ L h news) {x : Addr} {o : Obj} (hx : (x, o) ∈ news) (hc : o.cls = .type "range_iterator" ∨ o.cls = .type "list_iterator") (hr : ρ x = none) : Inv w G ρ f waF n nh tS tH (drp x news) := by
  refine I.drop N hx (by rcases hc with hc | hc <;> (rw [hc]; decide)) hr (fun k hk e => ?_) fun q hq hn => mem_drp.mpr ⟨hq, hn⟩
  cases hm : (G.sg k).mem with
  | false => rw [I.waN k hk hm] at e; cases e
  | true =>
    obtain ⟨_, ow, hw, hd⟩ := I.wa hk hm e
    rw [led_fun N hw hx] at hd
    rcases hc with hc | hc <;> (rw [hd] at hc; exact absurd (Value.type.inj hc) (by decide))
end

set_option maxRecDepth 100000 in
noncomputable def updB : { b : List Stmt // stB ((stB lawP.1.1 8).drop 5) 2 = b } := by
  refine' ⟨?b, ?h⟩
  case h => (dsimp only [lawP, stB, forB, List.drop, List.getElem?_cons_succ, List.getElem?_cons_zero]; exact rfl)
end
section
local macro_rules | `(tactic| k_mem) => `(tactic| exact Inv.fz (by assumption) _ (by assumption))
local macro_rules | `(tactic| walk_at "subscriptTail") => `(tactic| (k_here; (with_reducible show wpAny _ _ (subscriptTail _ _ (Value.ref _) (Value.int _ _)) _ _ _); k_dflt (refine' item_led ?N ?hm ?h0 ?h1 ?hx ?_; (case N => k_asm); (case hm => k_mem); (case h0 => omega); (case h1 => omega); (case hx => assumption); k_whole)))
local macro_rules | `(tactic| walk_at "setItem ref int") => `(tactic| (k_here; k_dflt (refine' list_set_led ?F ?N ?hm ?h0 ?hn ?hz ?_; (case F => k_asm); (case N => k_asm); (case hm => k_mem); (case h0 => omega); (case hn => omega); (case hz => omega); k_whole); intro h' n' F' N'))

theorem tabSet2 {tab : Nat → Int → List Int} {k : Nat} {s : Int} {r r' : List Int} : tabSet (tabSet tab k s r) k s r' = tabSet tab k s r' := by
  funext k' s'
  unfold tabSet
  split <;> rfl
set_option maxRecDepth 100000 in
set_option maxHeartbeats 8000000 in
theorem updR {w : World} {p : Program} {loose : List Str} {mean : ExcName → Option Value} {mg mb : Str → Option Value} {qual : Str}
    {dp un : Nat} {gd : Option (List Code)} {a : Addr} {ccd : Value} {ca : Addr} {outer : List Env} {A₀ : Around} {base h₀ : Heap} {L : Addr} {s : Shared} {Q : Flow → Shared → Prop} {E : Value → Shared → Prop} {news : Led}
    (B : Below A₀ base outer h₀) (X : (Mine.hd.heap_39 w.params).In h₀) (N : News h₀ L s.heap news) (T : Top p loose mean mg mb h₀) (hd : dp + 50 < recursionLimit) (hu : un + 600 < cLine)
   {G : Gs} {ρ : Addr → Option Nat} {f : List Int → Option Value} {waF : Nat → Option Addr} {n nh : Nat} {tS tH : Nat → Int → List Int} {k : Nat} {sp : Int} {i : Nat} {low : Int} {cs : List Int} {ys : List Value} {ny : Nat} {pa ra : Addr} (hk : k < 4) (I : Inv w G ρ f waF n nh tS (tabSet tS k sp (setN (tS k sp) low cs (G.sg k).wd i)) news)
   (hf : f [(k : Int), sp] = some (.ref ra)) (hpm : (pa, listOf ys.toArray ny) ∈ news) (hys : IntsAre ys cs) (hi : i < cs.length) (h3 : cs.length ≤ 3) (hcs : ∀ c ∈ cs, 0 ≤ c ∧ c < 4) (hl1 : -1 ≤ low) (hl4 : low ≤ 4)
   {u : Str → Option Value} {ta tw : Tok} (F : Fr h₀ L s.heap (fun y => if y = Str.ofString "at" then some (.int (i : Int) ta) else if y = Str.ofString "changed_now" then some (.bool (chN (tS k sp) low cs (G.sg k).wd i)) else if y = Str.ofString "row" then some (.ref ra) else if y = Str.ofString "part" then some (.ref pa) else if y = Str.ofString "low" then some (.int low tw) else if y = Str.ofString "signal" then some (.ref (G.sg k).sg) else u y))
   (hE : PassesOwn (model PySem.Challenge.rw_pq0454_01.row.prog w) (ktrTop dp un gd qual lawP.1.2 L a ccd [(Str.ofString "source", ca)] outer) (envX qual lawP.1.2 L a ccd [(Str.ofString "source", ca)]) E)
   (ret : ∀ m' news' h' tk', Fr h₀ L h' m' → News h₀ L h' news' → Inv w G ρ f waF n nh tS (tabSet tS k sp (setN (tS k sp) low cs (G.sg k).wd (i + 1))) news' → (∀ q ∈ news, q.1 ≠ ra → q ∈ news') → m' (Str.ofString "changed_now") = some (.bool (chN (tS k sp) low cs (G.sg k).wd (i + 1))) → Off [Str.ofString "changed_now"] (fun y => if y = Str.ofString "at" then some (.int (i : Int) ta) else if y = Str.ofString "changed_now" then some (.bool (chN (tS k sp) low cs (G.sg k).wd i)) else if y = Str.ofString "row" then some (.ref ra) else if y = Str.ofString "part" then some (.ref pa) else if y = Str.ofString "low" then some (.int low tw) else if y = Str.ofString "signal" then some (.ref (G.sg k).sg) else u y) m' → Q .next { s with heap := h', toks := tk' }) :
   wpAny (model PySem.Challenge.rw_pq0454_01.row.prog w) (ktrTop dp un gd qual lawP.1.2 L a ccd [(Str.ofString "source", ca)] outer) (execs updB.1 (envX qual lawP.1.2 L a ccd [(Str.ofString "source", ca)])) Q E s := by
  dsimp only [updB, lawP] at F hE ⊢
  revert X
  k_fill
  intro X
  have Sk := I.ok.sgs k hk
  obtain ⟨⟨tk0, hkey⟩, ⟨tkd, hkd⟩, ⟨twd, hwd⟩, hnm, him, hnw⟩ := Sk.is
  have hsg := I.fz _ (I.ok.fsg k hk)
  have hsd := I.fz _ (I.ok.fsd k hk)
  have hw1 := Sk.w1
  have hw4 := Sk.w4
  have hrow := I.okH k hk sp
  obtain ⟨a2, vs, nn, e2, hrm, hvs, hρ, _⟩ := I.rows k hk sp _ hf
  injection e2 with e2
  subst e2
  rw [tabSet_at] at hvs hrow
  have hrl := hrow.1
  have hvl : vs.length = (setN (tS k sp) low cs (G.sg k).wd i).length := hvs.length
  obtain ⟨tp, hpx⟩ := ints_at hys hi
  by_cases hin : 0 ≤ low + (i : Int) ∧ low + (i : Int) < (G.sg k).wd
  · obtain ⟨hin1, hin2⟩ := hin
    obtain ⟨tr, hrx⟩ := ints_at hvs (n := (low + (i : Int)).toNat) (by omega)
    have hpx' : ys.toArray[((i : Nat) : Int).toNat]? = some (.int (cs.getD i 0) tp) := hpx
    have hro := setN_ok (low := low) (I.okS k hk sp) hcs (i + 1)
    by_cases hne : (setN (tS k sp) low cs (G.sg k).wd i).getD (low + (i : Int)).toNat 0 = cs.getD i 0
    · have hcn : ¬ (0 ≤ low + (i : Int) ∧ low + (i : Int) < (G.sg k).wd ∧ (setN (tS k sp) low cs (G.sg k).wd i).getD (low + (i : Int)).toNat 0 ≠ cs.getD i 0) := fun h => h.2.2 hne
      have eN : setN (tS k sp) low cs (G.sg k).wd (i + 1) = setN (tS k sp) low cs (G.sg k).wd i := by rw [setN, if_neg hcn]
      have eC : chN (tS k sp) low cs (G.sg k).wd (i + 1) = chN (tS k sp) low cs (G.sg k).wd i := by rw [chN, if_neg hcn]
      rw [eN, eC] at ret
      k_steps
      all_goals first | (exfalso; omega) | exact ret _ _ _ _ (by assumption) (by assumption) I (fun q hq _ => hq) rfl (fun _ _ => rfl)
    · have hcn : 0 ≤ low + (i : Int) ∧ low + (i : Int) < (G.sg k).wd ∧ (setN (tS k sp) low cs (G.sg k).wd i).getD (low + (i : Int)).toNat 0 ≠ cs.getD i 0 := ⟨hin1, hin2, hne⟩
      have eN : setN (tS k sp) low cs (G.sg k).wd (i + 1) = (setN (tS k sp) low cs (G.sg k).wd i).set (low + (i : Int)).toNat (cs.getD i 0) := by rw [setN, if_pos hcn]
      have eC : chN (tS k sp) low cs (G.sg k).wd (i + 1) = true := by rw [chN, if_pos hcn]
      rw [eN] at hro
      rw [eN, eC] at ret
      have I2 := fun nn' => I.row (nn' := nn') N hk hf (ints_set hvs (low + (i : Int)).toNat (cs.getD i 0) tp) hro
      rw [show tabSet (tabSet tS k sp (setN (tS k sp) low cs (G.sg k).wd i)) k sp ((setN (tS k sp) low cs (G.sg k).wd i).set (low + (i : Int)).toNat (cs.getD i 0)) = tabSet tS k sp ((setN (tS k sp) low cs (G.sg k).wd i).set (low + (i : Int)).toNat (cs.getD i 0)) from tabSet2] at I2
      k_steps
      all_goals first | (exfalso; omega) | exact ret _ _ _ _ (by assumption) (by assumption) (I2 _) (fun q hq hn => .tail _ (mem_drp.mpr ⟨hq, hn⟩)) rfl (Off.one Off.refl (by decide))
  · have hcn : ¬ (0 ≤ low + (i : Int) ∧ low + (i : Int) < (G.sg k).wd ∧ (setN (tS k sp) low cs (G.sg k).wd i).getD (low + (i : Int)).toNat 0 ≠ cs.getD i 0) := fun h => hin ⟨h.1, h.2.1⟩
    have eN : setN (tS k sp) low cs (G.sg k).wd (i + 1) = setN (tS k sp) low cs (G.sg k).wd i := by rw [setN, if_neg hcn]
    have eC : chN (tS k sp) low cs (G.sg k).wd (i + 1) = chN (tS k sp) low cs (G.sg k).wd i := by rw [chN, if_neg hcn]
    rw [eN, eC] at ret
    k_steps
    all_goals first | (exfalso; omega) | exact ret _ _ _ _ (by assumption) (by assumption) I (fun q hq _ => hq) rfl (fun _ _ => rfl)
end
section
local macro_rules | `(tactic| k_mem) => `(tactic| exact Inv.fz (by assumption) _ (by assumption))
local macro_rules | `(tactic| walk_at "subscriptTail") => `(tactic| (k_here; (with_reducible show wpAny _ _ (subscriptTail _ _ (Value.ref _) (Value.int _ _)) _ _ _); k_dflt (refine' item_led ?N ?hm ?h0 ?h1 ?hx ?_; (case N => k_asm); (case hm => k_mem); (case h0 => omega); (case h1 => omega); (case hx => assumption); k_whole)))

set_option maxRecDepth 100000 in
set_option maxHeartbeats 8000000 in
theorem updN {w : World} {p : Program} {loose : List Str} {mean : ExcName → Option Value} {mg mb : Str → Option Value} {qual : Str}
    {dp un : Nat} {gd : Option (List Code)} {a : Addr} {ccd : Value} {ca : Addr} {outer : List Env} {A₀ : Around} {base h₀ : Heap} {L : Addr} {s : Shared} {Q : Flow → Shared → Prop} {E : Value → Shared → Prop} {news : Led}
    (B : Below A₀ base outer h₀) (X : (Mine.hd.heap_39 w.params).In h₀) (N : News h₀ L s.heap news) (T : Top p loose mean mg mb h₀) (hd : dp + 50 < recursionLimit) (hu : un + 600 < cLine)
   {i : Nat} {u : Str → Option Value} {ta : Tok} (F : Fr h₀ L s.heap (fun y => if y = Str.ofString "at" then some (.int (i : Int) ta) else if y = Str.ofString "changed_now" then some (.bool false) else if y = Str.ofString "row" then some (.none) else u y))
   (hE : PassesOwn (model PySem.Challenge.rw_pq0454_01.row.prog w) (ktrTop dp un gd qual lawP.1.2 L a ccd [(Str.ofString "source", ca)] outer) (envX qual lawP.1.2 L a ccd [(Str.ofString "source", ca)]) E)
   (ret : ∀ h' tk', Fr h₀ L h' (fun y => if y = Str.ofString "at" then some (.int (i : Int) ta) else if y = Str.ofString "changed_now" then some (.bool false) else if y = Str.ofString "row" then some (.none) else u y) → News h₀ L h' news → Q .next { s with heap := h', toks := tk' }) :
   wpAny (model PySem.Challenge.rw_pq0454_01.row.prog w) (ktrTop dp un gd qual lawP.1.2 L a ccd [(Str.ofString "source", ca)] outer) (execs updB.1 (envX qual lawP.1.2 L a ccd [(Str.ofString "source", ca)])) Q E s := by
  dsimp only [updB, lawP] at F hE ⊢
  revert X
  k_fill
  intro X
  k_steps
  exact ret _ _ (by assumption) (by assumption)

theorem htab_get1x {prog : Program} {w : World} {h₀ : Heap} {L d a : Addr} {news : Led} {ks : List Int} {ok : Obj} {A : Around} {E : Value → Shared → Prop} {s : Shared} {n : Nat} {f : List Int → Option Value} {x : Option Value} {Q : Value → Shared → Prop} (hu : A.units + 1 < cLine) (N : News h₀ L s.heap news) (T : HTab prog w news d n f) (hka : (a, ok) ∈ news) (tk : TupKeyObj (PySem.intKind prog w) ks ok)
    (hl : f ks = x) (h : Q (x.getD .none) { s with toks := s.toks + (ks.length + 1) }) : wpAny (model prog w) A (call (.builtin "dict.get") [.ref d, .ref a]) Q E s := htab_get1 hu N T hka tk (by rw [hl]; exact h)
end
section

theorem range3' {n : Nat} (h : n ≤ 3) : Builtin.Range.small 0 (n : Int) 1 = true ∧ Builtin.Range.rangeSize 0 (n : Int) 1 = (n : Int) := by
  have : n = 0 ∨ n = 1 ∨ n = 2 ∨ n = 3 := by omega
  rcases this with rfl | rfl | rfl | rfl <;> decide
def partOk (r : List Int) : Bool := decide (0 ≤ encA r) && decide (encA r < 8) && decide (0 ≤ encB r) && decide (encB r < 8)
theorem partOk_all : ∀ n ∈ [1, 2, 3], ∀ r ∈ listsOf [0, 1, 2, 3] n, partOk r = true := by decide +kernel
theorem enc_part {r : List Int} (h1 : 1 ≤ r.length) (h3 : r.length ≤ 3) (h : ∀ c ∈ r, 0 ≤ c ∧ c < 4) : 0 ≤ encA r ∧ encA r < 8 ∧ 0 ≤ encB r ∧ encB r < 8 := by
  have hn : r.length ∈ [1, 2, 3] := by
    have : r.length = 1 ∨ r.length = 2 ∨ r.length = 3 := by omega
    simpa using this
  have := partOk_all _ hn r (mem_listsOf rfl fun c hc => four (h c hc))
  unfold partOk at this
  simp only [Bool.and_eq_true, decide_eq_true_eq] at this
  obtain ⟨⟨⟨a, b⟩, c⟩, d⟩ := this
  exact ⟨a, b, c, d⟩
section
variable {w : World} {G : Gs} {ρ : Addr → Option Nat} {f : List Int → Option Value} {waF : Nat → Option Addr} {n nh : Nat} {tS tH : Nat → Int → List Int} {news news' : Led} {h₀ h : Heap} {L : Addr}
theorem Full.set (Fu : Full G f tS) {k : Nat} {s : Int} {r : List Int} (hk : k < 4) (hv : 0 ≤ s ∧ s < (G.sg k).words) : Full G f (tabSet tS k s r) := fun k2 hk2 s2 => by
  refine ⟨(Fu k2 hk2 s2).1, fun hn => ?_⟩
  unfold tabSet
  split
  · rename_i hc; obtain ⟨rfl, rfl⟩ := hc; exact absurd hv hn
  · exact (Fu k2 hk2 s2).2 hn
theorem MemOk.keep2 {kvm kvm' : List (Int × Value)} {waF' : Nat → Option Addr} {tS' : Nat → Int → List Int} {k : Nat} (M : MemOk w G ρ waF n tS kvm k news) (hv : valueAt kvm' k = valueAt kvm k) (hw : waF' k = waF k) (hts : ∀ s, tS' k s = tS k s) (h1 : ∀ q ∈ news, q.2.cls = .type "tuple" → q ∈ news') (h2 : ∀ wa ow, waF k = some wa → (wa, ow) ∈ news → (wa, ow) ∈ news') : MemOk w G ρ waF' (n + 1) tS' kvm' k news' := by
  rcases M with ⟨e1, e2, e3⟩ | ⟨wa, ow, kvw, e1, e2, e3, hm, hd, lo, hl, hc⟩
  · exact .inl ⟨hv ▸ e1, hw ▸ e2, fun s => (hts s).trans (e3 s)⟩
  · exact .inr ⟨wa, ow, kvw, hv ▸ e1, hw ▸ e2, e3, h2 _ _ e2 hm, hd, lo, by omega, fun s => by rw [hts]; exact (hc s).sub h1⟩
theorem Inv.same (I : Inv w G ρ f waF n nh tS tH news) : Inv w G ρ f waF (n + 1) nh tS tH news := by
  refine ⟨I.ok, I.src, I.fz, I.dom, ?_, ?_, I.waN, I.waI, I.held, I.rows, I.okS, I.okH⟩
  · obtain ⟨ov, kvs, m, d, l, c⟩ := I.vals
    exact ⟨ov, kvs, m, d, by omega, c⟩
  · obtain ⟨om, kvm, m, d, l, c⟩ := I.mems
    exact ⟨om, kvm, m, d, by omega, fun k hk hm => (c k hk hm).keep2 rfl rfl (fun _ => rfl) (fun _ h _ => h) fun _ _ _ h => h⟩
theorem Inv.putV {k : Nat} {r' : List Int} (I : Inv w G ρ f waF n nh tS (tabSet tS k 0 r') news) (N : News h₀ L h news) (hk : k < 4) (hm : (G.sg k).mem = false) {ov ov' : Obj} {kvs : List (Int × Value)} {b : Addr} {u1 u2 u3 : Tok} (hov : (G.st.vd, ov) ∈ news) (hdv : ov.IsDictOf (PySem.intKind PySem.Challenge.rw_pq0454_01.row.prog w) kvs) (hl : kvs.length ≤ n)
    (hc : ∀ k : Nat, k < 4 → (G.sg k).mem = false → Cel kvs k (G.sg k).net (G.sg k).wd (encA (tS k 0)) (encB (tS k 0)) news)
    (hov' : (G.st.vd, ov') ∈ news') (hdv' : ov'.IsDictOf (PySem.intKind PySem.Challenge.rw_pq0454_01.row.prog w) (stored kvs k (.ref b))) (hb : (b, tupO (.int (G.sg k).wd u1) (.int (encA r') u2) (.int (encB r') u3)) ∈ news') (hkeep : ∀ q ∈ news, q.1 ≠ G.st.vd → q ∈ news') :
    Inv w G ρ f waF (n + 1) nh (tabSet tS k 0 r') (tabSet tS k 0 r') news' := by
  have hrole : ∀ q ∈ news, ∀ r, ρ q.1 = some r → r ≠ 3 → q ∈ news' := fun q hq r h1 h2 => hkeep q hq fun e => by rw [e, I.ok.rvd] at h1; injection h1 with h1; exact h2 h1.symm
  have hcls : ∀ q ∈ news, q.2.cls ≠ .type "dict" → q ∈ news' := by
    intro q hq hc
    obtain ⟨a, o⟩ := q
    refine hkeep _ hq fun e => ?_
    have e' : a = G.st.vd := e
    subst e'
    exact hc (led_fun N hov hq ▸ dict_cls hdv)
  have ht : ∀ q ∈ news, q.2.cls = .type "tuple" → q ∈ news' := fun q hq hc => hcls q hq (by rw [hc]; decide)
  have hother : ∀ k2 s, (k2 ≠ k ∨ s ≠ 0) → tabSet tS k 0 r' k2 s = tS k2 s := fun k2 s hn => if_neg fun h => hn.elim (fun x => x h.1) fun x => x h.2
  refine ⟨I.ok, ?_, fun q hq => hrole q (I.fz q hq) 0 (I.ok.rfz q hq) (by decide), fun a r h1 h2 => ?_, ?_, ?_, I.waN, I.waI, I.held.keep (fun o hm => hrole _ hm 5 I.ok.rhh (by decide)) fun b o hm hc => ht _ hm hc, fun k2 hk2 s2 v hf2 => ?_, I.okH, I.okH⟩
  · obtain ⟨cur, seed, t1, t2, n1, vs, ns, n2, m1, m2, r⟩ := I.src
    exact ⟨cur, seed, t1, t2, n1, vs, ns, n2, hrole _ m1 1 I.ok.rsrc (by decide), hrole _ m2 2 I.ok.rlst (by decide), r⟩
  · by_cases e : a = G.st.vd
    · subst e
      exact ⟨_, hov', by rw [dict_cls hdv']; decide, by rw [dict_cls hdv']; decide⟩
    · obtain ⟨o, hm, hc⟩ := I.dom a r h1 h2
      exact ⟨o, hkeep _ hm e, hc⟩
  · refine ⟨ov', _, hov', hdv', Nat.le_trans (stored_length_le _ _ _) (by omega), fun k2 hk2 hm2 => ?_⟩
    by_cases e : k2 = k
    · subst e
      rw [tabSet_at]
      exact .inl ⟨b, u1, u2, u3, valueAt_self, hb⟩
    · rw [hother k2 0 (.inl e)]
      have hv : valueAt (stored kvs k (.ref b)) (k2 : Int) = valueAt kvs k2 := by rw [valueAt_stored, if_neg (by omega)]
      rcases (hc k2 hk2 hm2).sub ht with ⟨ta, x1, x2, x3, hl, hmm⟩ | ⟨hl, e1, e2⟩
      · exact .inl ⟨ta, x1, x2, x3, hv.trans hl, hmm⟩
      · exact .inr ⟨hv.trans hl, e1, e2⟩
  · obtain ⟨om, kvm, m, d, l, c⟩ := I.mems
    refine ⟨om, kvm, hrole _ m 4 I.ok.rmd (by decide), d, by omega, fun k2 hk2 hm2 => (c k2 hk2 hm2).keep2 rfl rfl (fun s => hother k2 s (.inl fun e => ?_)) ht fun wa ow h1 hmm => ?_⟩
    · subst e; rw [hm] at hm2; cases hm2
    · obtain ⟨hn, _⟩ := I.wa hk2 hm2 h1
      exact hkeep _ hmm fun e => by
        have e' : wa = G.st.vd := e
        rw [e', I.ok.rvd] at hn; cases hn
  · obtain ⟨a, vs, nn, e, m, r, e2, b⟩ := I.rows k2 hk2 s2 v hf2
    exact ⟨a, vs, nn, e, hrole _ m _ e2 (by omega), r, e2, b⟩
end
end
section
local macro_rules | `(tactic| walk_at "exec For Name Call cons nil") => `(tactic| (k_here; (rename Fr _ _ _ _ => lF'); (with_unfolding_all refine' For_invVF lF' ?k1 ?k2 ?_; (case k1 => exact rfl); (case k2 => exact rfl); k_whole)))
local macro_rules | `(tactic| walk_at "exec For Name Attribute cons nil") => `(tactic| (k_here; (rename Fr _ _ _ _ => lF'); (with_unfolding_all refine' For_invVF lF' ?k1 ?k2 ?_; (case k1 => exact rfl); (case k2 => exact rfl); k_whole)))
local macro_rules | `(tactic| walk_at "pyIter ref") => `(tactic| (k_here; refine' hold_out ?_))
local macro_rules | `(tactic| k_mem) => `(tactic| exact Inv.fz (by assumption) _ (by assumption))
local macro_rules | `(tactic| walk_at "getMethod ref") => `(tactic| (k_here; (with_reducible show wpAny _ _ (getMethod (Value.ref _) (Str.ofString "get") _) _ _ _); k_dflt (refine' htab_method ?N ?T ?_; (case N => k_asm); (case T => exact HTab.sub (by assumption) (by intro q hq; repeat (first | exact hq | refine List.mem_cons_of_mem _ ?_ | refine List.mem_append_right _ ?_))); k_whole)))
local macro_rules | `(tactic| walk_at "call builtin:dict.get") => `(tactic| (k_here; k_dflt (refine' htab_get1x ?hu ?N ?T ?ka (tk2 _ _ _ _) ?hl ?_; (case hu => ktr_units); (case N => k_asm); (case T => exact HTab.sub (by assumption) (by intro q hq; repeat (first | exact hq | refine List.mem_cons_of_mem _ ?_ | refine List.mem_append_right _ ?_))); (case ka => k_mem); (case hl => assumption); k_whole); (try dsimp only [Option.getD])))
local macro_rules | `(tactic| walk_at "call ref") => `(tactic| (k_here; refine' hold_out ?_))
local macro_rules | `(tactic| walk_at "call ref") => `(tactic| (k_here; k_dflt (refine' con_use (con_from ?hi ?h1 ?h3 ?hc) ?B ?F ?X ?N ?T ?K ?m1 ?hd ?hu ?_; (case B => k_asm); (case F => k_asm); (case X => k_asm); (case N => k_asm); (case T => k_asm); (case K => first | exact rfl | assumption); (case hd => ktr_room); (case hu => ktr_units); (case m1 => k_mem); (case hi => assumption); (case h1 => omega); (case h3 => omega); (case hc => assumption); k_whole); intro r' news' h' tk' F' N' hpost; (obtain ⟨b', u1', u2', u3', hr', hn'⟩ := hpost); subst hn'; subst hr'; (try k_fold)))

set_option maxRecDepth 100000 in
set_option maxHeartbeats 8000000 in
theorem lapEP {w : World} {p : Program} {loose : List Str} {mean : ExcName → Option Value} {mg mb : Str → Option Value} {qual : Str}
    {dp un : Nat} {gd : Option (List Code)} {a : Addr} {ccd : Value} {ca : Addr} {outer : List Env} {A₀ : Around} {base h₀ : Heap} {L : Addr} {s : Shared} {Q : Flow → Shared → Prop} {E : Value → Shared → Prop} {news : Led}
    (B : Below A₀ base outer h₀) (X : (Mine.hd.heap_39 w.params).In h₀)  (T : Top p loose mean mg mb h₀) (hd : dp + 50 < recursionLimit) (hu : un + 600 < cLine)
   {G : Gs} {ρ : Addr → Option Nat} {f : List Int → Option Value} {waF : Nat → Option Addr} {n nh : Nat} {tS tH : Nat → Int → List Int} {k : Nat} {low : Int} {cs : List Int} {ys : List Value} {ny : Nat} {pa : Addr} (N : News h₀ L s.heap ((pa, listOf ys.toArray ny) :: news)) (hk : k < 4) (hmem : (G.sg k).mem = false) (I : Inv w G ρ f waF n nh tS tS news) (Fu : Full G f tS) (hn : n ≤ 20)
   (hpa : ∀ q ∈ news, q.1 ≠ pa) (hys : IntsAre ys cs) (h1 : 1 ≤ cs.length) (h3 : cs.length ≤ 3) (hcs : ∀ c ∈ cs, 0 ≤ c ∧ c < 4) (hl1 : -1 ≤ low) (hl4 : low ≤ 4)
   {u : Str → Option Value} {tw ts : Tok} {spot : Int} (F : Fr h₀ L s.heap (fun y => if y = Str.ofString "part" then some (.ref pa) else if y = Str.ofString "low" then some (.int low tw) else if y = Str.ofString "spot" then some (.none) else if y = Str.ofString "signal" then some (.ref (G.sg k).sg) else if y = Str.ofString "store" then some (.ref G.st.st) else if y = Str.ofString "other" then some (.ref G.ot.st) else if y = Str.ofString "held" then some (.ref G.hh) else if y = Str.ofString "design" then some (.ref G.ds) else u y))
   (hE : PassesOwn (model PySem.Challenge.rw_pq0454_01.row.prog w) (ktrTop dp un gd qual lawP.1.2 L a ccd [(Str.ofString "source", ca)] outer) (envX qual lawP.1.2 L a ccd [(Str.ofString "source", ca)]) E)
   (ret : ∀ waF' tS' m' news' h' tk', Fr h₀ L h' m' → News h₀ L h' news' → Inv w G ρ f waF' (n + 1) nh tS' tS' news' → Full G f tS' → (∀ q ∈ news, ρ q.1 = none → (∀ k < 4, waF k ≠ some q.1) → q ∈ news') → Has m' [(Str.ofString "store", .ref G.st.st), (Str.ofString "other", .ref G.ot.st), (Str.ofString "held", .ref G.hh), (Str.ofString "design", .ref G.ds)] → Q .next { s with heap := h', toks := tk' }) :
   wpAny (model PySem.Challenge.rw_pq0454_01.row.prog w) (ktrTop dp un gd qual lawP.1.2 L a ccd [(Str.ofString "source", ca)] outer) (execs lapEB.1 (envX qual lawP.1.2 L a ccd [(Str.ofString "source", ca)])) Q E s := by
  dsimp only [lapEB, lawP] at F hE ⊢
  revert X
  k_fill
  intro X
  have Sk := I.ok.sgs k hk
  obtain ⟨⟨tk0, hkey⟩, ⟨tkd, hkd⟩, ⟨twd, hwd⟩, hnm, him, hnw⟩ := Sk.is
  have hsg := I.fz _ (I.ok.fsg k hk)
  have hsd := I.fz _ (I.ok.fsd k hk)
  have hw1 := Sk.w1
  have hw4 := Sk.w4
  have hheld := I.held
  obtain ⟨v0, hf⟩ : ∃ v, f [(k : Int), 0] = some v := by
    obtain ⟨ra, _, _, hf, _⟩ := I.due0 Fu hk hmem
    exact ⟨_, hf⟩
  obtain ⟨ra, vs, nn, rfl, hrm, hvs, hρ, _⟩ := I.rows k hk 0 v0 hf
  k_steps
  refine hold_in ?_
  rename IsRange _ _ _ _ _ _ _ _ => rg
  rename Fr _ _ _ _ => F5
  rename News _ _ _ _ => N5
  have I5 : ∀ q9, Inv w G ρ f waF n nh tS (tabSet tS k 0 (setN (tS k 0) low cs (G.sg k).wd 0)) (q9 :: (pa, listOf ys.toArray ny) :: news) := fun q9 => by
    rw [show setN (tS k 0) low cs (G.sg k).wd 0 = tS k 0 from rfl, tabSet_self]
    exact I.mono fun q hq => .tail _ (.tail _ hq)
  refine range_rule (n := cs.length) (fun i m' n' => Inv w G ρ f waF n nh tS (tabSet tS k 0 (setN (tS k 0) low cs (G.sg k).wd i)) n' ∧ (∀ q ∈ (pa, listOf ys.toArray ny) :: news, q.1 ≠ ra → q ∈ n') ∧ Has m' [(Str.ofString "changed_now", .bool (chN (tS k 0) low cs (G.sg k).wd i)), (Str.ofString "row", .ref ra), (Str.ofString "part", .ref pa), (Str.ofString "low", .int low tw), (Str.ofString "signal", .ref (G.sg k).sg), (Str.ofString "spot", .none), (Str.ofString "store", .ref G.st.st), (Str.ofString "other", .ref G.ot.st), (Str.ofString "held", .ref G.hh), (Str.ofString "design", .ref G.ds)]) rfl rg (range3' h3).1 (range3' h3).2 F5 N5 ⟨I5 _, fun q hq _ => .tail _ hq, (has_cons (by exact rfl) (has_cons (by exact rfl) (has_cons (by exact rfl) (has_cons (by exact rfl) (has_cons (by exact rfl) (has_cons (by exact rfl) (has_cons (by exact rfl) (has_cons (by exact rfl) (has_cons (by exact rfl) (has_cons (by exact rfl) has_nil))))))))))⟩ ?turn ?done
  case turn =>
    rintro i m₁ n₁ It it t h tk hi ⟨I1, hkq, hps⟩ hic hoff F9 N9
    rw [Int.zero_add] at F9
    have F1 : Fr h₀ L h (fun y => if y = Str.ofString "at" then some (.int (i : Int) t) else if y = Str.ofString "changed_now" then some (.bool (chN (tS k 0) low cs (G.sg k).wd i)) else if y = Str.ofString "row" then some (.ref ra) else if y = Str.ofString "part" then some (.ref pa) else if y = Str.ofString "low" then some (.int low tw) else if y = Str.ofString "signal" then some (.ref (G.sg k).sg) else if y = Str.ofString "spot" then some (.none) else if y = Str.ofString "store" then some (.ref G.st.st) else if y = Str.ofString "other" then some (.ref G.ot.st) else if y = Str.ofString "held" then some (.ref G.hh) else if y = Str.ofString "design" then some (.ref G.ds) else m₁ y) := fr_has F9 hps
    have I2 := I1.mono (news' := (It, it) :: n₁) (fun q hq => .tail _ hq)
    have hρI : ρ It = none := I.fresh fun q hq => hoff q (.tail _ (.tail _ hq))
    have hIr : It ≠ ra := fun e => by rw [e, hρ] at hρI; cases hρI
    have hpr : pa ≠ ra := fun e => hpa _ hrm e.symm
    refine updR (tH := tS) (u := kstB m₁ [(Str.ofString "spot", .none), (Str.ofString "store", .ref G.st.st), (Str.ofString "other", .ref G.ot.st), (Str.ofString "held", .ref G.hh), (Str.ofString "design", .ref G.ds)]) B X N9 T hd hu hk I2 hf (.tail _ (hkq _ (.head _) hpr)) hys hi h3 hcs hl1 hl4 F1 hE (fun m' n' h' tk' F' N' I' hk' hch off' => TurnPost.end (.inl rfl) F' N' (hk' _ (.head _) hIr) ⟨I'.dropIt N' (hk' _ (.head _) hIr) (.inl hic) hρI, fun q hq hne => mem_drp.mpr ⟨hk' q (.tail _ (hkq q hq hne)) hne, hoff q (.tail _ hq)⟩, has_cons hch (has_cons (off_has off' (by decide) rfl) (has_cons (off_has off' (by decide) rfl) (has_cons (off_has off' (by decide) rfl) (has_cons (off_has off' (by decide) rfl) (has_cons (off_has off' (by decide) rfl) (has_cons (off_has off' (by decide) rfl) (has_cons (off_has off' (by decide) rfl) (has_cons (off_has off' (by decide) rfl) (has_cons (off_has off' (by decide) rfl) has_nil)))))))))⟩)
  case done =>
    rintro m₁ n₁ h tk ⟨I1, hkq, hps⟩ F9 N9
    have F1 : Fr h₀ L h (fun y => if y = Str.ofString "changed_now" then some (.bool (chN (tS k 0) low cs (G.sg k).wd cs.length)) else if y = Str.ofString "row" then some (.ref ra) else if y = Str.ofString "part" then some (.ref pa) else if y = Str.ofString "low" then some (.int low tw) else if y = Str.ofString "signal" then some (.ref (G.sg k).sg) else if y = Str.ofString "spot" then some (.none) else if y = Str.ofString "store" then some (.ref G.st.st) else if y = Str.ofString "other" then some (.ref G.ot.st) else if y = Str.ofString "held" then some (.ref G.hh) else if y = Str.ofString "design" then some (.ref G.ds) else m₁ y) := fr_has0 F9 hps
    have N1 : News h₀ L h n₁ := N9
    have hpr : pa ≠ ra := fun e => hpa _ hrm e.symm
    have hpm := hkq _ (.head _) hpr
    clear F5 N5 F9 N9 rg I5
    have hsl := I1.fz _ I.ok.fsl
    have hsig := sigs_at G hk
    have hst := I1.fz _ I.ok.fst
    have hsx := I1.fz _ I.ok.fsx
    obtain ⟨ho1, ho2, ho3, ho4, ho5, ho6⟩ := I.ok.gst
    have hsg := I1.fz _ (I.ok.fsg k hk)
    have hsd := I1.fz _ (I.ok.fsd k hk)
    have hpe := enc_part h1 h3 hcs
    have hre := enc_of hw1 hw4 (I.okS k hk 0)
    have hci := ch_iff (low := low) hw1 hw4 (I.okS k hk 0) h1 h3 hcs hl1 hl4
    have hse := setN_enc (low := low) hw1 hw4 (I.okS k hk 0) h1 h3 hcs hl1 hl4
    dsimp only
    k_steps
    refine hold_in ?_
    obtain ⟨ov, kvs, hov, hdv, hlv, hcel⟩ := I1.vals
    rename News _ _ _ _ => N7
    rename Fr _ _ _ _ => F7
    have hcs1 : (1 : Int) ≤ (cs.length : Int) := by omega
    have hcs3 : (cs.length : Int) ≤ 3 := by omega
    refine con_use (con_setN (key := (k : Int)) ho1 ho2 ho3 ho4 ho5 (by omega) (by omega) hsig hdv I.ok.lv hnm hkd hwd hw1 hw4 hre.1.1 hre.1.2.1 hre.1.2.2.1 hre.1.2.2.2 hl1 hl4 hcs1 hcs3 hpe.1 hpe.2.1 hpe.2.2.1 hpe.2.2.2 (by omega)) B F7 X N7 T rfl ⟨⟨.tail _ hst, .tail _ hsx, .tail _ hov, .tail _ hsl, .tail _ hsg, .tail _ hsd⟩, (hcel k hk hmem).subs (fun q hq => .tail _ hq), .head _⟩ (by ktr_room) (by ktr_units) ?_
    have I2 := fun q9 => I1.mono (news' := q9 :: n₁) (fun q hq => List.mem_cons_of_mem _ hq)
    have hqr : ∀ q ∈ news, ρ q.1 = none → q ∈ n₁ := fun q hq hn => hkq q (.tail _ hq) fun e => by rw [e, hρ] at hn; cases hn
    intro r' news' h' tk' F' N' hpost
    rcases hpost with ⟨hr', hsame, tl', hn'⟩ | ⟨hr', hnsame, ov', b', u1', u2', u3', hov', hdv', hb', hkeep⟩
    · subst hr'
      have hch := hci.mpr hsame
      rw [hch] at F'
      subst hn'
      have I3 : ∀ q9, Inv w G ρ f waF (n + 1) nh tS tS (tl' ++ q9 :: n₁) := fun q9 => by
        have I4 := (I2 q9).same.mono (news' := tl' ++ q9 :: n₁) fun q hq => List.mem_append_right _ hq
        rwa [chN_false _ _ _ _ _ hch, tabSet_self] at I4
      try k_fold
      k_steps
      exact ret waF tS _ _ _ _ (by assumption) (by assumption) (I3 _) Fu (fun q hq hn _ => List.mem_append_right _ (.tail _ (hqr q hq hn))) (has_cons (by exact rfl) (has_cons (by exact rfl) (has_cons (by exact rfl) (has_cons (by exact rfl) (has_nil)))))
    · subst hr'
      have hch : chN (tS k 0) low cs (G.sg k).wd cs.length = true := by
        cases hc : chN (tS k 0) low cs (G.sg k).wd cs.length with
        | true => rfl
        | false => exact absurd (hci.mp hc) hnsame
      rw [hch] at F'
      rw [← hse.1, ← hse.2] at hb'
      have I3 := (I2 _).putV N7 hk hmem (.tail _ hov) hdv hlv (fun k hk hm => (hcel k hk hm).subs fun q hq => .tail _ hq) hov' hdv' hb' hkeep
      try k_fold
      k_steps
      exact ret waF _ _ _ _ _ (by assumption) (by assumption) I3 (Fu.set hk ⟨by omega, by rw [show (G.sg k).words = 1 from by unfold Sg.words; rw [hmem]; rfl]; decide⟩) (fun q hq hn _ => hkeep q (.tail _ (hqr q hq hn)) fun e => by rw [e, I.ok.rvd] at hn; cases hn) (has_cons (by exact rfl) (has_cons (by exact rfl) (has_cons (by exact rfl) (has_cons (by exact rfl) (has_nil)))))
end
section

section
variable {w : World} {G : Gs} {ρ : Addr → Option Nat} {f : List Int → Option Value} {waF : Nat → Option Addr} {n nh : Nat} {tS tH : Nat → Int → List Int} {news news' : Led} {h₀ h : Heap} {L : Addr}
theorem cel_stored {kvw : List (Int × Value)} {s : Int} {b : Addr} {net : Bool} {wd : Int} {u1 u2 u3 : Tok} {r' : List Int} {k : Nat} {s2 : Int} (hb : (b, tupO (.int wd u1) (.int (encA r') u2) (.int (encB r') u3)) ∈ news')
    (hc : s2 ≠ s → Cel kvw s2 net wd (encA (tS k s2)) (encB (tS k s2)) news') : Cel (stored kvw s (.ref b)) s2 net wd (encA (tabSet tS k s r' k s2)) (encB (tabSet tS k s r' k s2)) news' := by
  by_cases e : s2 = s
  · subst e
    rw [tabSet_at]
    exact .inl ⟨b, u1, u2, u3, valueAt_self, hb⟩
  · rw [show tabSet tS k s r' k s2 = tS k s2 from if_neg fun h => e h.2]
    have hv : valueAt (stored kvw s (.ref b)) s2 = valueAt kvw s2 := by rw [valueAt_stored, if_neg e]
    rcases hc e with ⟨ta, x1, x2, x3, hl, hmm⟩ | ⟨hl, e1, e2⟩
    · exact .inl ⟨ta, x1, x2, x3, hv.trans hl, hmm⟩
    · exact .inr ⟨hv.trans hl, e1, e2⟩
theorem Inv.waNe (I : Inv w G ρ f waF n nh tS tH news) {k : Nat} (hk : k < 4) {x b : Addr} (hw : waF k = some x) (hb : ∀ q ∈ news, q.1 ≠ b) : x ≠ b := by
  cases hm : (G.sg k).mem with
  | false => rw [I.waN k hk hm] at hw; cases hw
  | true =>
    obtain ⟨_, ow, h, _⟩ := I.wa hk hm hw
    exact hb _ h
theorem Inv.putMa {k : Nat} {s : Int} {r' : List Int} (I : Inv w G ρ f waF n nh tS (tabSet tS k s r') news) (N : News h₀ L h news) (hk : k < 4) (hm : (G.sg k).mem = true) {om om' ow' : Obj} {kvm : List (Int × Value)} {wa b : Addr} {u1 u2 u3 : Tok} (hom : (G.st.md, om) ∈ news) (hdm : om.IsDictOf (PySem.intKind PySem.Challenge.rw_pq0454_01.row.prog w) kvm) (hl : kvm.length ≤ n)
    (hc : ∀ k : Nat, k < 4 → (G.sg k).mem = true → MemOk w G ρ waF n tS kvm k news) (e3 : ∀ s, tS k s = (G.sg k).blank)
    (hom' : (G.st.md, om') ∈ news') (hdm' : om'.IsDictOf (PySem.intKind PySem.Challenge.rw_pq0454_01.row.prog w) (stored kvm k (.ref wa))) (how' : (wa, ow') ∈ news') (hdw' : ow'.IsDictOf (PySem.intKind PySem.Challenge.rw_pq0454_01.row.prog w) (stored [] s (.ref b))) (low : (wa == sysModules) = false) (hb : (b, tupO (.int (G.sg k).wd u1) (.int (encA r') u2) (.int (encB r') u3)) ∈ news') (hlt : ∀ q ∈ news, q.1 < wa) (hkeep : ∀ q ∈ news, q.1 ≠ G.st.md → q ∈ news') :
    Inv w G ρ f (fun k' => if k' = k then some wa else waF k') (n + 1) nh (tabSet tS k s r') (tabSet tS k s r') news' := by
  have hnew : ∀ q ∈ news, q.1 ≠ wa := fun q hq => Nat.ne_of_lt (hlt q hq)
  have hρ := I.fresh hnew
  have hrole : ∀ q ∈ news, ∀ r, ρ q.1 = some r → r ≠ 4 → q ∈ news' := fun q hq r h1 h2 => hkeep q hq fun e => by rw [e, I.ok.rmd] at h1; injection h1 with h1; exact h2 h1.symm
  have hcls : ∀ q ∈ news, q.2.cls ≠ .type "dict" → q ∈ news' := by
    intro q hq hc
    obtain ⟨a, o⟩ := q
    refine hkeep _ hq fun e => ?_
    have e' : a = G.st.md := e
    subst e'
    exact hc (led_fun N hom hq ▸ dict_cls hdm)
  have ht : ∀ q ∈ news, q.2.cls = .type "tuple" → q ∈ news' := fun q hq hc => hcls q hq (by rw [hc]; decide)
  have hother : ∀ k2 s2, k2 ≠ k → tabSet tS k s r' k2 s2 = tS k2 s2 := fun k2 s2 hn => if_neg fun h => hn h.1
  have hb4 := blank_of (I.ok.sgs k hk).w1 (I.ok.sgs k hk).w4
  refine ⟨I.ok, ?_, fun q hq => hrole q (I.fz q hq) 0 (I.ok.rfz q hq) (by decide), fun a r h1 h2 => ?_, ?_, ?_, fun k2 hk2 hm2 => ?_, fun k1 k2 a hk1 hk2 h1 h2 => ?_, I.held.keep (fun o hm => hrole _ hm 5 I.ok.rhh (by decide)) fun b o hm hc => ht _ hm hc, fun k2 hk2 s2 v hf2 => ?_, I.okH, I.okH⟩
  · obtain ⟨cur, seed, t1, t2, n1, vs, ns, n2, m1, m2, r⟩ := I.src
    exact ⟨cur, seed, t1, t2, n1, vs, ns, n2, hrole _ m1 1 I.ok.rsrc (by decide), hrole _ m2 2 I.ok.rlst (by decide), r⟩
  · by_cases e : a = G.st.md
    · subst e
      exact ⟨_, hom', by rw [dict_cls hdm']; decide, by rw [dict_cls hdm']; decide⟩
    · obtain ⟨o, hm, hc⟩ := I.dom a r h1 h2
      exact ⟨o, hkeep _ hm e, hc⟩
  · obtain ⟨ov, kvs, m, d, l, c⟩ := I.vals
    refine ⟨ov, kvs, hrole _ m 3 I.ok.rvd (by decide), d, by omega, fun k2 hk2 hm2 => ?_⟩
    rw [hother k2 0 (fun e => by subst e; rw [hm] at hm2; cases hm2)]
    exact (c k2 hk2 hm2).sub ht
  · refine ⟨om', _, hom', hdm', Nat.le_trans (stored_length_le _ _ _) (by omega), fun k2 hk2 hm2 => ?_⟩
    by_cases e : k2 = k
    · subst e
      refine .inr ⟨wa, ow', _, valueAt_self, if_pos rfl, hρ, how', hdw', low, Nat.le_trans (stored_length_le _ _ _) (by simp), fun s2 => cel_stored hb fun _ => .inr ⟨rfl, ?_, ?_⟩⟩
      · rw [e3]; exact hb4.1
      · rw [e3]; exact hb4.2.1
    · refine (hc k2 hk2 hm2).keep2 (by rw [valueAt_stored, if_neg (by omega)]) (if_neg e) (fun s2 => hother k2 s2 e) ht fun wa2 ow h1 hmm => ?_
      obtain ⟨hn, _⟩ := I.wa hk2 hm2 h1
      exact hkeep _ hmm fun e => by
        have e' : wa2 = G.st.md := e
        rw [e', I.ok.rmd] at hn; cases hn
  · have e : k2 ≠ k := fun e => by subst e; rw [hm] at hm2; cases hm2
    exact (if_neg e).trans (I.waN k2 hk2 hm2)
  · have h1' : (if k1 = k then some wa else waF k1) = some a := h1
    have h2' : (if k2 = k then some wa else waF k2) = some a := h2
    by_cases c1 : k1 = k
    · by_cases c2 : k2 = k
      · rw [c1, c2]
      · rw [if_pos c1] at h1'; rw [if_neg c2] at h2'
        injection h1' with h1'
        exact absurd h1'.symm (I.waNe hk2 h2' hnew)
    · by_cases c2 : k2 = k
      · rw [if_neg c1] at h1'; rw [if_pos c2] at h2'
        injection h2' with h2'
        exact absurd h2'.symm (I.waNe hk1 h1' hnew)
      · rw [if_neg c1] at h1'; rw [if_neg c2] at h2'
        exact I.waI k1 k2 a hk1 hk2 h1' h2'
  · obtain ⟨a, vs, nn, e, m, r, e2, b⟩ := I.rows k2 hk2 s2 v hf2
    exact ⟨a, vs, nn, e, hrole _ m _ e2 (by omega), r, e2, b⟩
theorem Inv.putMb {k : Nat} {s : Int} {r' : List Int} (I : Inv w G ρ f waF n nh tS (tabSet tS k s r') news) (N : News h₀ L h news) (hk : k < 4) (hm : (G.sg k).mem = true) {om ow ow' : Obj} {kvm kvw : List (Int × Value)} {wa b : Addr} {u1 u2 u3 : Tok} (hom : (G.st.md, om) ∈ news) (hdm : om.IsDictOf (PySem.intKind PySem.Challenge.rw_pq0454_01.row.prog w) kvm) (hl : kvm.length ≤ n)
    (hc : ∀ k : Nat, k < 4 → (G.sg k).mem = true → MemOk w G ρ waF n tS kvm k news) (e1 : valueAt kvm k = some (.ref wa)) (e2 : waF k = some wa) (e3 : ρ wa = none) (how : (wa, ow) ∈ news) (hdw : ow.IsDictOf (PySem.intKind PySem.Challenge.rw_pq0454_01.row.prog w) kvw) (hlw : kvw.length ≤ n) (hcel : ∀ s, Cel kvw s (G.sg k).net (G.sg k).wd (encA (tS k s)) (encB (tS k s)) news)
    (how' : (wa, ow') ∈ news') (hdw' : ow'.IsDictOf (PySem.intKind PySem.Challenge.rw_pq0454_01.row.prog w) (stored kvw s (.ref b))) (low : (wa == sysModules) = false) (hb : (b, tupO (.int (G.sg k).wd u1) (.int (encA r') u2) (.int (encB r') u3)) ∈ news') (hkeep : ∀ q ∈ news, q.1 ≠ wa → q ∈ news') :
    Inv w G ρ f waF (n + 1) nh (tabSet tS k s r') (tabSet tS k s r') news' := by
  have hrole : ∀ q ∈ news, ∀ r, ρ q.1 = some r → q ∈ news' := fun q hq r h1 => hkeep q hq fun e => by rw [e, e3] at h1; cases h1
  have hcls : ∀ q ∈ news, q.2.cls ≠ .type "dict" → q ∈ news' := by
    intro q hq hc
    obtain ⟨a, o⟩ := q
    refine hkeep _ hq fun e => ?_
    have e' : a = wa := e
    subst e'
    exact hc (led_fun N how hq ▸ dict_cls hdw)
  have ht : ∀ q ∈ news, q.2.cls = .type "tuple" → q ∈ news' := fun q hq hc => hcls q hq (by rw [hc]; decide)
  have hother : ∀ k2 s2, k2 ≠ k → tabSet tS k s r' k2 s2 = tS k2 s2 := fun k2 s2 hn => if_neg fun h => hn h.1
  refine ⟨I.ok, ?_, fun q hq => hrole q (I.fz q hq) 0 (I.ok.rfz q hq), fun a r h1 h2 => ?_, ?_, ?_, I.waN, I.waI, I.held.keep (fun o hm => hrole _ hm 5 I.ok.rhh) fun b o hm hc => ht _ hm hc, fun k2 hk2 s2 v hf2 => ?_, I.okH, I.okH⟩
  · obtain ⟨cur, seed, t1, t2, n1, vs, ns, n2, m1, m2, r⟩ := I.src
    exact ⟨cur, seed, t1, t2, n1, vs, ns, n2, hrole _ m1 1 I.ok.rsrc, hrole _ m2 2 I.ok.rlst, r⟩
  · obtain ⟨o, hm, hc⟩ := I.dom a r h1 h2
    exact ⟨o, hrole _ hm _ h1, hc⟩
  · obtain ⟨ov, kvs, m, d, l, c⟩ := I.vals
    refine ⟨ov, kvs, hrole _ m 3 I.ok.rvd, d, by omega, fun k2 hk2 hm2 => ?_⟩
    rw [hother k2 0 (fun e => by subst e; rw [hm] at hm2; cases hm2)]
    exact (c k2 hk2 hm2).sub ht
  · refine ⟨om, kvm, hrole _ hom 4 I.ok.rmd, hdm, by omega, fun k2 hk2 hm2 => ?_⟩
    by_cases e : k2 = k
    · subst e
      exact .inr ⟨wa, ow', _, e1, e2, e3, how', hdw', low, Nat.le_trans (stored_length_le _ _ _) (by omega), fun s2 => cel_stored hb fun _ => (hcel s2).sub ht⟩
    · refine (hc k2 hk2 hm2).keep2 rfl rfl (fun s2 => hother k2 s2 e) ht fun wa2 ow2 h1 hmm => hkeep _ hmm fun e4 => ?_
      have e' : wa2 = wa := e4
      rw [e'] at h1
      exact e (I.waI k2 k wa hk2 hk h1 e2)
  · obtain ⟨a, vs, nn, e, m, r, e2, b⟩ := I.rows k2 hk2 s2 v hf2
    exact ⟨a, vs, nn, e, hrole _ m _ e2, r, e2, b⟩
theorem Sg.words_m {S : Sg} (h : S.mem = true) : S.words = (if S.la - S.fi < 0 then -(S.la - S.fi) else S.la - S.fi) + 1 := by unfold Sg.words; rw [h]; rfl
end
end
section
local macro_rules | `(tactic| walk_at "no such place") => `(tactic| fail "none")
local macro_rules | `(tactic| walk_at "exec For Name Call cons nil") => `(tactic| (k_here; (rename Fr _ _ _ _ => lF'); (with_unfolding_all refine' For_invVF lF' ?k1 ?k2 ?_; (case k1 => exact rfl); (case k2 => exact rfl); k_whole)))
local macro_rules | `(tactic| walk_at "exec For Name Attribute cons nil") => `(tactic| (k_here; (rename Fr _ _ _ _ => lF'); (with_unfolding_all refine' For_invVF lF' ?k1 ?k2 ?_; (case k1 => exact rfl); (case k2 => exact rfl); k_whole)))
local macro_rules | `(tactic| walk_at "pyIter ref") => `(tactic| (k_here; refine' hold_out ?_))
local macro_rules | `(tactic| k_mem) => `(tactic| exact Inv.fz (by assumption) _ (by assumption))
local macro_rules | `(tactic| walk_at "getMethod ref") => `(tactic| (k_here; (with_reducible show wpAny _ _ (getMethod (Value.ref _) (Str.ofString "get") _) _ _ _); k_dflt (refine' htab_method ?N ?T ?_; (case N => k_asm); (case T => exact HTab.sub (by assumption) (by intro q hq; repeat (first | exact hq | refine List.mem_cons_of_mem _ ?_ | refine List.mem_append_right _ ?_))); k_whole)))
local macro_rules | `(tactic| walk_at "call builtin:dict.get") => `(tactic| (k_here; k_dflt (refine' htab_get1x ?hu ?N ?T ?ka (tk2 _ _ _ _) ?hl ?_; (case hu => ktr_units); (case N => k_asm); (case T => exact HTab.sub (by assumption) (by intro q hq; repeat (first | exact hq | refine List.mem_cons_of_mem _ ?_ | refine List.mem_append_right _ ?_))); (case ka => k_mem); (case hl => assumption); k_whole); (try dsimp only [Option.getD])))
local macro_rules | `(tactic| walk_at "call ref") => `(tactic| (k_here; refine' hold_out ?_))
local macro_rules | `(tactic| walk_at "call ref") => `(tactic| (k_here; k_dflt (refine' con_use (con_from ?hi ?h1 ?h3 ?hc) ?B ?F ?X ?N ?T ?K ?m1 ?hd ?hu ?_; (case B => k_asm); (case F => k_asm); (case X => k_asm); (case N => k_asm); (case T => k_asm); (case K => first | exact rfl | assumption); (case hd => ktr_room); (case hu => ktr_units); (case m1 => k_mem); (case hi => assumption); (case h1 => omega); (case h3 => omega); (case hc => assumption); k_whole); intro r' news' h' tk' F' N' hpost; (obtain ⟨b', u1', u2', u3', hr', hn'⟩ := hpost); subst hn'; subst hr'; (try k_fold)))

set_option maxRecDepth 100000 in
set_option maxHeartbeats 8000000 in
theorem lapER {w : World} {p : Program} {loose : List Str} {mean : ExcName → Option Value} {mg mb : Str → Option Value} {qual : Str}
    {dp un : Nat} {gd : Option (List Code)} {a : Addr} {ccd : Value} {ca : Addr} {outer : List Env} {A₀ : Around} {base h₀ : Heap} {L : Addr} {s : Shared} {Q : Flow → Shared → Prop} {E : Value → Shared → Prop} {news : Led}
    (B : Below A₀ base outer h₀) (X : (Mine.hd.heap_39 w.params).In h₀)  (T : Top p loose mean mg mb h₀) (hd : dp + 50 < recursionLimit) (hu : un + 600 < cLine)
   {G : Gs} {ρ : Addr → Option Nat} {f : List Int → Option Value} {waF : Nat → Option Addr} {n nh : Nat} {tS tH : Nat → Int → List Int} {k : Nat} {low : Int} {cs : List Int} {ys : List Value} {ny : Nat} {pa : Addr} (N : News h₀ L s.heap ((pa, listOf ys.toArray ny) :: news)) (hk : k < 4) (hmem : (G.sg k).mem = true) (I : Inv w G ρ f waF n nh tS tS news) (Fu : Full G f tS) (hn : n ≤ 20)
   (hpa : ∀ q ∈ news, q.1 ≠ pa) (hys : IntsAre ys cs) (h1 : 1 ≤ cs.length) (h3 : cs.length ≤ 3) (hcs : ∀ c ∈ cs, 0 ≤ c ∧ c < 4) (hl1 : -1 ≤ low) (hl4 : low ≤ 4)
   {u : Str → Option Value} {tw ts : Tok} {spot : Int} (F : Fr h₀ L s.heap (fun y => if y = Str.ofString "part" then some (.ref pa) else if y = Str.ofString "low" then some (.int low tw) else if y = Str.ofString "spot" then some (.int spot ts) else if y = Str.ofString "signal" then some (.ref (G.sg k).sg) else if y = Str.ofString "store" then some (.ref G.st.st) else if y = Str.ofString "other" then some (.ref G.ot.st) else if y = Str.ofString "held" then some (.ref G.hh) else if y = Str.ofString "design" then some (.ref G.ds) else u y))
   (hE : PassesOwn (model PySem.Challenge.rw_pq0454_01.row.prog w) (ktrTop dp un gd qual lawP.1.2 L a ccd [(Str.ofString "source", ca)] outer) (envX qual lawP.1.2 L a ccd [(Str.ofString "source", ca)]) E)
   (hv : 0 ≤ spot ∧ spot < (G.sg k).words) (ret : ∀ waF' tS' m' news' h' tk', Fr h₀ L h' m' → News h₀ L h' news' → Inv w G ρ f waF' (n + 1) nh tS' tS' news' → Full G f tS' → (∀ q ∈ news, ρ q.1 = none → (∀ k < 4, waF k ≠ some q.1) → q ∈ news') → Has m' [(Str.ofString "store", .ref G.st.st), (Str.ofString "other", .ref G.ot.st), (Str.ofString "held", .ref G.hh), (Str.ofString "design", .ref G.ds)] → Q .next { s with heap := h', toks := tk' }) :
   wpAny (model PySem.Challenge.rw_pq0454_01.row.prog w) (ktrTop dp un gd qual lawP.1.2 L a ccd [(Str.ofString "source", ca)] outer) (execs lapEB.1 (envX qual lawP.1.2 L a ccd [(Str.ofString "source", ca)])) Q E s := by
  dsimp only [lapEB, lawP] at F hE ⊢
  revert X
  k_fill
  intro X
  have Sk := I.ok.sgs k hk
  obtain ⟨⟨tk0, hkey⟩, ⟨tkd, hkd⟩, ⟨twd, hwd⟩, hnm, him, hnw⟩ := Sk.is
  have hsg := I.fz _ (I.ok.fsg k hk)
  have hsd := I.fz _ (I.ok.fsd k hk)
  have hw1 := Sk.w1
  have hw4 := Sk.w4
  have hheld := I.held
  obtain ⟨v0, hf⟩ := Option.isSome_iff_exists.mp ((Fu k hk spot).1.mpr hv)
  obtain ⟨ra, vs, nn, rfl, hrm, hvs, hρ, _⟩ := I.rows k hk spot v0 hf
  have hv0 := hv
  rw [Sg.words_m hmem] at hv0
  k_steps
  refine hold_in ?_
  rename IsRange _ _ _ _ _ _ _ _ => rg
  rename Fr _ _ _ _ => F5
  rename News _ _ _ _ => N5
  have I5 : ∀ q9, Inv w G ρ f waF n nh tS (tabSet tS k spot (setN (tS k spot) low cs (G.sg k).wd 0)) (q9 :: (pa, listOf ys.toArray ny) :: news) := fun q9 => by
    rw [show setN (tS k spot) low cs (G.sg k).wd 0 = tS k spot from rfl, tabSet_self]
    exact I.mono fun q hq => .tail _ (.tail _ hq)
  refine range_rule (n := cs.length) (fun i m' n' => Inv w G ρ f waF n nh tS (tabSet tS k spot (setN (tS k spot) low cs (G.sg k).wd i)) n' ∧ (∀ q ∈ (pa, listOf ys.toArray ny) :: news, q.1 ≠ ra → q ∈ n') ∧ Has m' [(Str.ofString "changed_now", .bool (chN (tS k spot) low cs (G.sg k).wd i)), (Str.ofString "row", .ref ra), (Str.ofString "part", .ref pa), (Str.ofString "low", .int low tw), (Str.ofString "signal", .ref (G.sg k).sg), (Str.ofString "spot", .int spot ts), (Str.ofString "store", .ref G.st.st), (Str.ofString "other", .ref G.ot.st), (Str.ofString "held", .ref G.hh), (Str.ofString "design", .ref G.ds)]) rfl rg (range3' h3).1 (range3' h3).2 F5 N5 ⟨I5 _, fun q hq _ => .tail _ hq, (has_cons (by exact rfl) (has_cons (by exact rfl) (has_cons (by exact rfl) (has_cons (by exact rfl) (has_cons (by exact rfl) (has_cons (by exact rfl) (has_cons (by exact rfl) (has_cons (by exact rfl) (has_cons (by exact rfl) (has_cons (by exact rfl) has_nil))))))))))⟩ ?turn ?done
  case turn =>
    rintro i m₁ n₁ It it t h tk hi ⟨I1, hkq, hps⟩ hic hoff F9 N9
    rw [Int.zero_add] at F9
    have F1 : Fr h₀ L h (fun y => if y = Str.ofString "at" then some (.int (i : Int) t) else if y = Str.ofString "changed_now" then some (.bool (chN (tS k spot) low cs (G.sg k).wd i)) else if y = Str.ofString "row" then some (.ref ra) else if y = Str.ofString "part" then some (.ref pa) else if y = Str.ofString "low" then some (.int low tw) else if y = Str.ofString "signal" then some (.ref (G.sg k).sg) else if y = Str.ofString "spot" then some (.int spot ts) else if y = Str.ofString "store" then some (.ref G.st.st) else if y = Str.ofString "other" then some (.ref G.ot.st) else if y = Str.ofString "held" then some (.ref G.hh) else if y = Str.ofString "design" then some (.ref G.ds) else m₁ y) := fr_has F9 hps
    have I2 := I1.mono (news' := (It, it) :: n₁) (fun q hq => .tail _ hq)
    have hρI : ρ It = none := I.fresh fun q hq => hoff q (.tail _ (.tail _ hq))
    have hIr : It ≠ ra := fun e => by rw [e, hρ] at hρI; cases hρI
    have hpr : pa ≠ ra := fun e => hpa _ hrm e.symm
    refine updR (tH := tS) (u := kstB m₁ [(Str.ofString "spot", .int spot ts), (Str.ofString "store", .ref G.st.st), (Str.ofString "other", .ref G.ot.st), (Str.ofString "held", .ref G.hh), (Str.ofString "design", .ref G.ds)]) B X N9 T hd hu hk I2 hf (.tail _ (hkq _ (.head _) hpr)) hys hi h3 hcs hl1 hl4 F1 hE (fun m' n' h' tk' F' N' I' hk' hch off' => TurnPost.end (.inl rfl) F' N' (hk' _ (.head _) hIr) ⟨I'.dropIt N' (hk' _ (.head _) hIr) (.inl hic) hρI, fun q hq hne => mem_drp.mpr ⟨hk' q (.tail _ (hkq q hq hne)) hne, hoff q (.tail _ hq)⟩, has_cons hch (has_cons (off_has off' (by decide) rfl) (has_cons (off_has off' (by decide) rfl) (has_cons (off_has off' (by decide) rfl) (has_cons (off_has off' (by decide) rfl) (has_cons (off_has off' (by decide) rfl) (has_cons (off_has off' (by decide) rfl) (has_cons (off_has off' (by decide) rfl) (has_cons (off_has off' (by decide) rfl) (has_cons (off_has off' (by decide) rfl) has_nil)))))))))⟩)
  case done =>
    rintro m₁ n₁ h tk ⟨I1, hkq, hps⟩ F9 N9
    have F1 : Fr h₀ L h (fun y => if y = Str.ofString "changed_now" then some (.bool (chN (tS k spot) low cs (G.sg k).wd cs.length)) else if y = Str.ofString "row" then some (.ref ra) else if y = Str.ofString "part" then some (.ref pa) else if y = Str.ofString "low" then some (.int low tw) else if y = Str.ofString "signal" then some (.ref (G.sg k).sg) else if y = Str.ofString "spot" then some (.int spot ts) else if y = Str.ofString "store" then some (.ref G.st.st) else if y = Str.ofString "other" then some (.ref G.ot.st) else if y = Str.ofString "held" then some (.ref G.hh) else if y = Str.ofString "design" then some (.ref G.ds) else m₁ y) := fr_has0 F9 hps
    have N1 : News h₀ L h n₁ := N9
    have hpr : pa ≠ ra := fun e => hpa _ hrm e.symm
    have hpm := hkq _ (.head _) hpr
    clear F5 N5 F9 N9 rg I5
    have hsl := I1.fz _ I.ok.fsl
    have hsig := sigs_at G hk
    have hst := I1.fz _ I.ok.fst
    have hsx := I1.fz _ I.ok.fsx
    obtain ⟨ho1, ho2, ho3, ho4, ho5, ho6⟩ := I.ok.gst
    have hsg := I1.fz _ (I.ok.fsg k hk)
    have hsd := I1.fz _ (I.ok.fsd k hk)
    have hpe := enc_part h1 h3 hcs
    have hre := enc_of hw1 hw4 (I.okS k hk spot)
    have hci := ch_iff (low := low) hw1 hw4 (I.okS k hk spot) h1 h3 hcs hl1 hl4
    have hse := setN_enc (low := low) hw1 hw4 (I.okS k hk spot) h1 h3 hcs hl1 hl4
    dsimp only
    k_steps
    refine hold_in ?_
    obtain ⟨om, kvm, hom, hdm, hlm, hmem4⟩ := I1.mems
    rename News _ _ _ _ => N7
    rename Fr _ _ _ _ => F7
    have hcs1 : (1 : Int) ≤ (cs.length : Int) := by omega
    have hcs3 : (cs.length : Int) ≤ 3 := by omega
    obtain ⟨tf, hfi⟩ := Sk.f1 hmem
    obtain ⟨tg, hla⟩ := Sk.f2 hmem
    have hsm : @Ne Nat G.st.sdx G.st.md := fun e => by
      have h1 : ρ G.st.sdx = some 0 := I.ok.rfz _ I.ok.fsx
      rw [show G.st.sdx = G.st.md from e, I.ok.rmd] at h1
      cases h1
    have hbk := blank_of hw1 hw4
    have I2 := fun q9 => I1.mono (news' := q9 :: n₁) (fun q hq => List.mem_cons_of_mem _ hq)
    have hqr : ∀ q ∈ news, ρ q.1 = none → q ∈ n₁ := fun q hq hn => hkq q (.tail _ hq) fun e => by rw [e, hρ] at hn; cases hn
    rcases hmem4 k hk hmem with ⟨e1, e2, e3⟩ | ⟨wa, ow, kvw, e1, e2, e3, how, hdw, low', hlw, hcel⟩
    · refine con_use (con_setM_a (key := (k : Int)) (place := spot) (x := encA (tS k spot)) (y := encB (tS k spot)) ho1 ho2 ho3 ho4 ho5 (by omega) (by omega) hsig hdm I.ok.lm hnm hkd hwd hw1 hw4 hre.1.1 hre.1.2.1 hre.1.2.2.1 hre.1.2.2.2 hl1 hl4 hcs1 hcs3 hpe.1 hpe.2.1 hpe.2.2.1 hpe.2.2.2 hnw hfi hla Sk.a1 Sk.a2 Sk.b1 Sk.b2 hsm (by omega) e1 (by rw [e1]; rfl) (by rw [e3]; exact hbk.1) (by rw [e3]; exact hbk.2.1)) B F7 X N7 T rfl ⟨⟨.tail _ hst, .tail _ hsx, .tail _ hom, .tail _ hsl, .tail _ hsg, .tail _ hsd⟩, .head _⟩ (by ktr_room) (by ktr_units) ?_
      intro r' news' h' tk' F' N' hpost
      rcases hpost with ⟨hr', hsame, tl', hn'⟩ | ⟨hr', hp0, hp1, hnsame, om', wa', ow', b', u1', u2', u3', hom', hdm', how', hdw', low', hb', hlt', hkeep⟩
      · subst hr'
        have hsame : planeV (G.sg k).wd low (cs.length : Int) (encA (tS k spot)) (encA cs) = encA (tS k spot) ∧ planeV (G.sg k).wd low (cs.length : Int) (encB (tS k spot)) (encB cs) = encB (tS k spot) := by
          rcases hsame with h9 | h9 | h9
          · exact absurd h9 (by omega)
          · exact absurd h9 (by omega)
          · exact h9
        have hch := hci.mpr hsame
        rw [hch] at F'
        subst hn'
        have I3 : ∀ q9, Inv w G ρ f waF (n + 1) nh tS tS (tl' ++ q9 :: n₁) := fun q9 => by
          have I4 := (I2 q9).same.mono (news' := tl' ++ q9 :: n₁) fun q hq => List.mem_append_right _ hq
          rwa [chN_false _ _ _ _ _ hch, tabSet_self] at I4
        try k_fold
        k_steps
        exact ret waF tS _ _ _ _ (by assumption) (by assumption) (I3 _) Fu (fun q hq hn _ => List.mem_append_right _ (.tail _ (hqr q hq hn))) (has_cons (by exact rfl) (has_cons (by exact rfl) (has_cons (by exact rfl) (has_cons (by exact rfl) (has_nil)))))
      · subst hr'
        have hch : chN (tS k spot) low cs (G.sg k).wd cs.length = true := by
          cases hc : chN (tS k spot) low cs (G.sg k).wd cs.length with
          | true => rfl
          | false => exact absurd (hci.mp hc) hnsame
        rw [hch] at F'
        rw [← hse.1, ← hse.2] at hb'
        have I3 := (I2 _).putMa N7 hk hmem (.tail _ hom) hdm hlm (fun k hk hm => (hmem4 k hk hm).keep (fun q hq _ => .tail _ hq) fun _ _ _ hm => .tail _ hm) e3 hom' hdm' how' hdw' low' hb' hlt' hkeep
        try k_fold
        k_steps
        exact ret _ _ _ _ _ _ (by assumption) (by assumption) I3 (Fu.set hk hv) (fun q hq hn _ => hkeep q (.tail _ (hqr q hq hn)) fun e => by rw [e, I.ok.rmd] at hn; cases hn) (has_cons (by exact rfl) (has_cons (by exact rfl) (has_cons (by exact rfl) (has_cons (by exact rfl) (has_nil)))))
    · refine con_use (con_setM_b (key := (k : Int)) (place := spot) (x := encA (tS k spot)) (y := encB (tS k spot)) ho1 ho2 ho3 ho4 ho5 (by omega) (by omega) hsig hdm I.ok.lm hnm hkd hwd hw1 hw4 hre.1.1 hre.1.2.1 hre.1.2.2.1 hre.1.2.2.2 hl1 hl4 hcs1 hcs3 hpe.1 hpe.2.1 hpe.2.2.1 hpe.2.2.2 hnw hfi hla Sk.a1 Sk.a2 Sk.b1 Sk.b2 hsm (by omega) hdw low' e1 (by rw [e1]; rfl) (by omega)) B F7 X N7 T rfl ⟨⟨.tail _ hst, .tail _ hsx, .tail _ hom, .tail _ hsl, .tail _ hsg, .tail _ hsd⟩, .tail _ how, (hcel spot).subs (fun q hq => .tail _ hq), .head _⟩ (by ktr_room) (by ktr_units) ?_
      intro r' news' h' tk' F' N' hpost
      rcases hpost with ⟨hr', hsame, tl', hn'⟩ | ⟨hr', hp0, hp1, hnsame, ow', b', u1', u2', u3', how', hdw', hb', hkeep⟩
      · subst hr'
        have hsame : planeV (G.sg k).wd low (cs.length : Int) (encA (tS k spot)) (encA cs) = encA (tS k spot) ∧ planeV (G.sg k).wd low (cs.length : Int) (encB (tS k spot)) (encB cs) = encB (tS k spot) := by
          rcases hsame with h9 | h9 | h9
          · exact absurd h9 (by omega)
          · exact absurd h9 (by omega)
          · exact h9
        have hch := hci.mpr hsame
        rw [hch] at F'
        subst hn'
        have I3 : ∀ q9, Inv w G ρ f waF (n + 1) nh tS tS (tl' ++ q9 :: n₁) := fun q9 => by
          have I4 := (I2 q9).same.mono (news' := tl' ++ q9 :: n₁) fun q hq => List.mem_append_right _ hq
          rwa [chN_false _ _ _ _ _ hch, tabSet_self] at I4
        try k_fold
        k_steps
        exact ret waF tS _ _ _ _ (by assumption) (by assumption) (I3 _) Fu (fun q hq hn _ => List.mem_append_right _ (.tail _ (hqr q hq hn))) (has_cons (by exact rfl) (has_cons (by exact rfl) (has_cons (by exact rfl) (has_cons (by exact rfl) (has_nil)))))
      · subst hr'
        have hch : chN (tS k spot) low cs (G.sg k).wd cs.length = true := by
          cases hc : chN (tS k spot) low cs (G.sg k).wd cs.length with
          | true => rfl
          | false => exact absurd (hci.mp hc) hnsame
        rw [hch] at F'
        rw [← hse.1, ← hse.2] at hb'
        have I3 := (I2 _).putMb N7 hk hmem (.tail _ hom) hdm hlm (fun k hk hm => (hmem4 k hk hm).keep (fun q hq _ => .tail _ hq) fun _ _ _ hm => .tail _ hm) e1 e2 e3 (.tail _ how) hdw hlw (fun s => (hcel s).subs fun q hq => .tail _ hq) how' hdw' low' hb' hkeep
        try k_fold
        k_steps
        exact ret _ _ _ _ _ _ (by assumption) (by assumption) I3 (Fu.set hk hv) (fun q hq hn hw => hkeep q (.tail _ (hqr q hq hn)) fun e => hw k hk (e ▸ e2)) (has_cons (by exact rfl) (has_cons (by exact rfl) (has_cons (by exact rfl) (has_cons (by exact rfl) (has_nil)))))
end
section
local macro_rules | `(tactic| walk_at "exec For Name Call cons nil") => `(tactic| (k_here; (rename Fr _ _ _ _ => lF'); (with_unfolding_all refine' For_invVF lF' ?k1 ?k2 ?_; (case k1 => exact rfl); (case k2 => exact rfl); k_whole)))
local macro_rules | `(tactic| walk_at "exec For Name Attribute cons nil") => `(tactic| (k_here; (rename Fr _ _ _ _ => lF'); (with_unfolding_all refine' For_invVF lF' ?k1 ?k2 ?_; (case k1 => exact rfl); (case k2 => exact rfl); k_whole)))
local macro_rules | `(tactic| walk_at "pyIter ref") => `(tactic| (k_here; refine' hold_out ?_))
local macro_rules | `(tactic| k_mem) => `(tactic| exact Inv.fz (by assumption) _ (by assumption))
local macro_rules | `(tactic| walk_at "getMethod ref") => `(tactic| (k_here; (with_reducible show wpAny _ _ (getMethod (Value.ref _) (Str.ofString "get") _) _ _ _); k_dflt (refine' htab_method ?N ?T ?_; (case N => k_asm); (case T => exact HTab.sub (by assumption) (by intro q hq; repeat (first | exact hq | refine List.mem_cons_of_mem _ ?_ | refine List.mem_append_right _ ?_))); k_whole)))
local macro_rules | `(tactic| walk_at "call builtin:dict.get") => `(tactic| (k_here; k_dflt (refine' htab_get1x ?hu ?N ?T ?ka (tk2 _ _ _ _) ?hl ?_; (case hu => ktr_units); (case N => k_asm); (case T => exact HTab.sub (by assumption) (by intro q hq; repeat (first | exact hq | refine List.mem_cons_of_mem _ ?_ | refine List.mem_append_right _ ?_))); (case ka => k_mem); (case hl => assumption); k_whole); (try dsimp only [Option.getD])))
local macro_rules | `(tactic| walk_at "call ref") => `(tactic| (k_here; refine' hold_out ?_))
local macro_rules | `(tactic| walk_at "call ref") => `(tactic| (k_here; k_dflt (refine' con_use (con_from ?hi ?h1 ?h3 ?hc) ?B ?F ?X ?N ?T ?K ?m1 ?hd ?hu ?_; (case B => k_asm); (case F => k_asm); (case X => k_asm); (case N => k_asm); (case T => k_asm); (case K => first | exact rfl | assumption); (case hd => ktr_room); (case hu => ktr_units); (case m1 => k_mem); (case hi => assumption); (case h1 => omega); (case h3 => omega); (case hc => assumption); k_whole); intro r' news' h' tk' F' N' hpost; (obtain ⟨b', u1', u2', u3', hr', hn'⟩ := hpost); subst hn'; subst hr'; (try k_fold)))

set_option maxRecDepth 100000 in
set_option maxHeartbeats 8000000 in
theorem lapEN {w : World} {p : Program} {loose : List Str} {mean : ExcName → Option Value} {mg mb : Str → Option Value} {qual : Str}
    {dp un : Nat} {gd : Option (List Code)} {a : Addr} {ccd : Value} {ca : Addr} {outer : List Env} {A₀ : Around} {base h₀ : Heap} {L : Addr} {s : Shared} {Q : Flow → Shared → Prop} {E : Value → Shared → Prop} {news : Led}
    (B : Below A₀ base outer h₀) (X : (Mine.hd.heap_39 w.params).In h₀)  (T : Top p loose mean mg mb h₀) (hd : dp + 50 < recursionLimit) (hu : un + 600 < cLine)
   {G : Gs} {ρ : Addr → Option Nat} {f : List Int → Option Value} {waF : Nat → Option Addr} {n nh : Nat} {tS tH : Nat → Int → List Int} {k : Nat} {low : Int} {cs : List Int} {ys : List Value} {ny : Nat} {pa : Addr} (N : News h₀ L s.heap ((pa, listOf ys.toArray ny) :: news)) (hk : k < 4) (hmem : (G.sg k).mem = true) (I : Inv w G ρ f waF n nh tS tS news) (Fu : Full G f tS) (hn : n ≤ 20)
   (hpa : ∀ q ∈ news, q.1 ≠ pa) (hys : IntsAre ys cs) (h1 : 1 ≤ cs.length) (h3 : cs.length ≤ 3) (hcs : ∀ c ∈ cs, 0 ≤ c ∧ c < 4) (hl1 : -1 ≤ low) (hl4 : low ≤ 4)
   {u : Str → Option Value} {tw ts : Tok} {spot : Int} (F : Fr h₀ L s.heap (fun y => if y = Str.ofString "part" then some (.ref pa) else if y = Str.ofString "low" then some (.int low tw) else if y = Str.ofString "spot" then some (.int spot ts) else if y = Str.ofString "signal" then some (.ref (G.sg k).sg) else if y = Str.ofString "store" then some (.ref G.st.st) else if y = Str.ofString "other" then some (.ref G.ot.st) else if y = Str.ofString "held" then some (.ref G.hh) else if y = Str.ofString "design" then some (.ref G.ds) else u y))
   (hE : PassesOwn (model PySem.Challenge.rw_pq0454_01.row.prog w) (ktrTop dp un gd qual lawP.1.2 L a ccd [(Str.ofString "source", ca)] outer) (envX qual lawP.1.2 L a ccd [(Str.ofString "source", ca)]) E)
   (hv : ¬ (0 ≤ spot ∧ spot < (G.sg k).words)) (ret : ∀ waF' tS' m' news' h' tk', Fr h₀ L h' m' → News h₀ L h' news' → Inv w G ρ f waF' (n + 1) nh tS' tS' news' → Full G f tS' → (∀ q ∈ news, ρ q.1 = none → (∀ k < 4, waF k ≠ some q.1) → q ∈ news') → Has m' [(Str.ofString "store", .ref G.st.st), (Str.ofString "other", .ref G.ot.st), (Str.ofString "held", .ref G.hh), (Str.ofString "design", .ref G.ds)] → Q .next { s with heap := h', toks := tk' }) :
   wpAny (model PySem.Challenge.rw_pq0454_01.row.prog w) (ktrTop dp un gd qual lawP.1.2 L a ccd [(Str.ofString "source", ca)] outer) (execs lapEB.1 (envX qual lawP.1.2 L a ccd [(Str.ofString "source", ca)])) Q E s := by
  dsimp only [lapEB, lawP] at F hE ⊢
  revert X
  k_fill
  intro X
  have Sk := I.ok.sgs k hk
  obtain ⟨⟨tk0, hkey⟩, ⟨tkd, hkd⟩, ⟨twd, hwd⟩, hnm, him, hnw⟩ := Sk.is
  have hsg := I.fz _ (I.ok.fsg k hk)
  have hsd := I.fz _ (I.ok.fsd k hk)
  have hw1 := Sk.w1
  have hw4 := Sk.w4
  have hheld := I.held
  have hf : f [(k : Int), spot] = none := by
    cases hf : f [(k : Int), spot] with
    | none => rfl
    | some v => exact absurd ((Fu k hk spot).1.mp (by rw [hf]; rfl)) hv
  rw [Sg.words_m hmem] at hv
  k_steps
  refine hold_in ?_
  rename IsRange _ _ _ _ _ _ _ _ => rg
  rename Fr _ _ _ _ => F5
  rename News _ _ _ _ => N5
  refine range_rule (n := cs.length) (fun i m' n' => (∀ q ∈ (pa, listOf ys.toArray ny) :: news, q ∈ n') ∧ Has m' [(Str.ofString "changed_now", .bool false), (Str.ofString "row", .none), (Str.ofString "part", .ref pa), (Str.ofString "low", .int low tw), (Str.ofString "signal", .ref (G.sg k).sg), (Str.ofString "spot", .int spot ts), (Str.ofString "store", .ref G.st.st), (Str.ofString "other", .ref G.ot.st), (Str.ofString "held", .ref G.hh), (Str.ofString "design", .ref G.ds)]) rfl rg (range3' h3).1 (range3' h3).2 F5 N5 ⟨fun q hq => .tail _ hq, (has_cons (by exact rfl) (has_cons (by exact rfl) (has_cons (by exact rfl) (has_cons (by exact rfl) (has_cons (by exact rfl) (has_cons (by exact rfl) (has_cons (by exact rfl) (has_cons (by exact rfl) (has_cons (by exact rfl) (has_cons (by exact rfl) has_nil))))))))))⟩ ?turn ?done
  case turn =>
    rintro i m₁ n₁ It it t h tk hi ⟨hkq, hps⟩ hic hoff F9 N9
    rw [Int.zero_add] at F9
    have F1 : Fr h₀ L h (fun y => if y = Str.ofString "at" then some (.int (i : Int) t) else if y = Str.ofString "changed_now" then some (.bool false) else if y = Str.ofString "row" then some (.none) else if y = Str.ofString "part" then some (.ref pa) else if y = Str.ofString "low" then some (.int low tw) else if y = Str.ofString "signal" then some (.ref (G.sg k).sg) else if y = Str.ofString "spot" then some (.int spot ts) else if y = Str.ofString "store" then some (.ref G.st.st) else if y = Str.ofString "other" then some (.ref G.ot.st) else if y = Str.ofString "held" then some (.ref G.hh) else if y = Str.ofString "design" then some (.ref G.ds) else m₁ y) := fr_has F9 hps
    refine updN (u := kstB m₁ [(Str.ofString "part", .ref pa), (Str.ofString "low", .int low tw), (Str.ofString "signal", .ref (G.sg k).sg), (Str.ofString "spot", .int spot ts), (Str.ofString "store", .ref G.st.st), (Str.ofString "other", .ref G.ot.st), (Str.ofString "held", .ref G.hh), (Str.ofString "design", .ref G.ds)]) B X N9 T hd hu F1 hE (fun h' tk' F' N' => TurnPost.end (.inl rfl) F' N' (.head _) ⟨drp_sub (fun q hq => .tail _ (hkq q hq)) (fun q hq => hoff q (.tail _ hq)), (has_cons (by exact rfl) (has_cons (by exact rfl) (has_cons (by exact rfl) (has_cons (by exact rfl) (has_cons (by exact rfl) (has_cons (by exact rfl) (has_cons (by exact rfl) (has_cons (by exact rfl) (has_cons (by exact rfl) (has_cons (by exact rfl) has_nil))))))))))⟩)
  case done =>
    rintro m₁ n₁ h tk ⟨hkq, hps⟩ F9 N9
    have F1 : Fr h₀ L h (fun y => if y = Str.ofString "changed_now" then some (.bool false) else if y = Str.ofString "row" then some (.none) else if y = Str.ofString "part" then some (.ref pa) else if y = Str.ofString "low" then some (.int low tw) else if y = Str.ofString "signal" then some (.ref (G.sg k).sg) else if y = Str.ofString "spot" then some (.int spot ts) else if y = Str.ofString "store" then some (.ref G.st.st) else if y = Str.ofString "other" then some (.ref G.ot.st) else if y = Str.ofString "held" then some (.ref G.hh) else if y = Str.ofString "design" then some (.ref G.ds) else m₁ y) := fr_has0 F9 hps
    have N1 : News h₀ L h n₁ := N9
    have hpm := hkq _ (.head _)
    clear F5 N5 F9 N9 rg
    have I1 := I.mono (news' := n₁) fun q hq => hkq q (.tail _ hq)
    have hsl := I1.fz _ I.ok.fsl
    have hsig := sigs_at G hk
    have hst := I1.fz _ I.ok.fst
    have hsx := I1.fz _ I.ok.fsx
    obtain ⟨ho1, ho2, ho3, ho4, ho5, ho6⟩ := I.ok.gst
    have hsg := I1.fz _ (I.ok.fsg k hk)
    have hsd := I1.fz _ (I.ok.fsd k hk)
    have hpe := enc_part h1 h3 hcs
    have hre := enc_of hw1 hw4 (I.okS k hk spot)
    dsimp only
    k_steps
    refine hold_in ?_
    obtain ⟨om, kvm, hom, hdm, hlm, hmem4⟩ := I1.mems
    rename News _ _ _ _ => N7
    rename Fr _ _ _ _ => F7
    have hcs1 : (1 : Int) ≤ (cs.length : Int) := by omega
    have hcs3 : (cs.length : Int) ≤ 3 := by omega
    obtain ⟨tf, hfi⟩ := Sk.f1 hmem
    obtain ⟨tg, hla⟩ := Sk.f2 hmem
    have hsm : @Ne Nat G.st.sdx G.st.md := fun e => by
      have h1 : ρ G.st.sdx = some 0 := I.ok.rfz _ I.ok.fsx
      rw [show G.st.sdx = G.st.md from e, I.ok.rmd] at h1
      cases h1
    have hbk := blank_of hw1 hw4
    have I2 := fun q9 => I1.mono (news' := q9 :: n₁) (fun q hq => List.mem_cons_of_mem _ hq)
    have hqr : ∀ q ∈ news, q ∈ n₁ := fun q hq => hkq q (.tail _ hq)
    rcases hmem4 k hk hmem with ⟨e1, e2, e3⟩ | ⟨wa, ow, kvw, e1, e2, e3, how, hdw, low', hlw, hcel⟩
    · refine con_use (con_setM_a (key := (k : Int)) (place := spot) (x := encA (tS k spot)) (y := encB (tS k spot)) ho1 ho2 ho3 ho4 ho5 (by omega) (by omega) hsig hdm I.ok.lm hnm hkd hwd hw1 hw4 hre.1.1 hre.1.2.1 hre.1.2.2.1 hre.1.2.2.2 hl1 hl4 hcs1 hcs3 hpe.1 hpe.2.1 hpe.2.2.1 hpe.2.2.2 hnw hfi hla Sk.a1 Sk.a2 Sk.b1 Sk.b2 hsm (by omega) e1 (by rw [e1]; rfl) (by rw [e3]; exact hbk.1) (by rw [e3]; exact hbk.2.1)) B F7 X N7 T rfl ⟨⟨.tail _ hst, .tail _ hsx, .tail _ hom, .tail _ hsl, .tail _ hsg, .tail _ hsd⟩, .head _⟩ (by ktr_room) (by ktr_units) ?_
      intro r' news' h' tk' F' N' hpost
      rcases hpost with ⟨hr', hsame, tl', hn'⟩ | ⟨hr', hp0, hp1, hnsame, om', wa', ow', b', u1', u2', u3', hom', hdm', how', hdw', low', hb', hlt', hkeep⟩
      · subst hr'
        subst hn'
        have I3 : ∀ q9, Inv w G ρ f waF (n + 1) nh tS tS (tl' ++ q9 :: n₁) := fun q9 => (I2 q9).same.mono fun q hq => List.mem_append_right _ hq
        try k_fold
        k_steps
        exact ret waF tS _ _ _ _ (by assumption) (by assumption) (I3 _) Fu (fun q hq _ _ => List.mem_append_right _ (.tail _ (hqr q hq))) (has_cons (by exact rfl) (has_cons (by exact rfl) (has_cons (by exact rfl) (has_cons (by exact rfl) (has_nil)))))
      · exact absurd hv (by omega)
    · refine con_use (con_setM_b (key := (k : Int)) (place := spot) (x := encA (tS k spot)) (y := encB (tS k spot)) ho1 ho2 ho3 ho4 ho5 (by omega) (by omega) hsig hdm I.ok.lm hnm hkd hwd hw1 hw4 hre.1.1 hre.1.2.1 hre.1.2.2.1 hre.1.2.2.2 hl1 hl4 hcs1 hcs3 hpe.1 hpe.2.1 hpe.2.2.1 hpe.2.2.2 hnw hfi hla Sk.a1 Sk.a2 Sk.b1 Sk.b2 hsm (by omega) hdw low' e1 (by rw [e1]; rfl) (by omega)) B F7 X N7 T rfl ⟨⟨.tail _ hst, .tail _ hsx, .tail _ hom, .tail _ hsl, .tail _ hsg, .tail _ hsd⟩, .tail _ how, (hcel spot).subs (fun q hq => .tail _ hq), .head _⟩ (by ktr_room) (by ktr_units) ?_
      intro r' news' h' tk' F' N' hpost
      rcases hpost with ⟨hr', hsame, tl', hn'⟩ | ⟨hr', hp0, hp1, hnsame, ow', b', u1', u2', u3', how', hdw', hb', hkeep⟩
      · subst hr'
        subst hn'
        have I3 : ∀ q9, Inv w G ρ f waF (n + 1) nh tS tS (tl' ++ q9 :: n₁) := fun q9 => (I2 q9).same.mono fun q hq => List.mem_append_right _ hq
        try k_fold
        k_steps
        exact ret waF tS _ _ _ _ (by assumption) (by assumption) (I3 _) Fu (fun q hq _ _ => List.mem_append_right _ (.tail _ (hqr q hq))) (has_cons (by exact rfl) (has_cons (by exact rfl) (has_cons (by exact rfl) (has_cons (by exact rfl) (has_nil)))))
      · exact absurd hv (by omega)
end
section
local macro_rules | `(tactic| walk_at "exec For Name Call cons nil") => `(tactic| (k_here; (rename Fr _ _ _ _ => lF'); (with_unfolding_all refine' For_invVF lF' ?k1 ?k2 ?_; (case k1 => exact rfl); (case k2 => exact rfl); k_whole)))
local macro_rules | `(tactic| walk_at "exec For Name Attribute cons nil") => `(tactic| (k_here; (rename Fr _ _ _ _ => lF'); (with_unfolding_all refine' For_invVF lF' ?k1 ?k2 ?_; (case k1 => exact rfl); (case k2 => exact rfl); k_whole)))
local macro_rules | `(tactic| walk_at "pyIter ref") => `(tactic| (k_here; refine' hold_out ?_))
local macro_rules | `(tactic| k_mem) => `(tactic| exact Inv.fz (by assumption) _ (by assumption))
local macro_rules | `(tactic| walk_at "call ref") => `(tactic| (k_here; k_dflt (refine' con_use (con_ismem_i ?hk1) ?B ?F ?X ?N ?T ?K ?hp ?hd ?hu ?_; (case B => k_asm); (case F => k_asm); (case X => k_asm); (case N => k_asm); (case T => k_asm); (case K => first | exact rfl | assumption); (case hd => ktr_room); (case hu => ktr_units); (case hp => exact ⟨by k_mem, by k_mem⟩); (case hk1 => assumption); k_whole); intro r' news' h' tk' F' N' hpost; (obtain ⟨hn', hr'⟩ := hpost); subst hn'; subst hr'; (try k_fold)))
local macro_rules | `(tactic| walk_at "call ref") => `(tactic| (k_here; k_dflt (refine' con_use (con_ismem_n ?hk1) ?B ?F ?X ?N ?T ?K ?hp ?hd ?hu ?_; (case B => k_asm); (case F => k_asm); (case X => k_asm); (case N => k_asm); (case T => k_asm); (case K => first | exact rfl | assumption); (case hd => ktr_room); (case hu => ktr_units); (case hp => exact ⟨by k_mem, by k_mem⟩); (case hk1 => assumption); k_whole); intro r' news' h' tk' F' N' hpost; (obtain ⟨hn', hr'⟩ := hpost); subst hn'; subst hr'; (try k_fold)))
local macro_rules | `(tactic| walk_at "call ref") => `(tactic| (k_here; k_dflt (refine' take_inv (Inv.mono ?I ?hs) ?B ?F ?X ?N ?T ?K ?hd ?hu ?hm ?hm2 ?_; (case B => k_asm); (case F => k_asm); (case X => k_asm); (case N => k_asm); (case T => k_asm); (case K => first | exact rfl | assumption); (case hd => ktr_room); (case hu => ktr_units); (case I => assumption); (case hs => (intro q hq; repeat (first | exact hq | refine List.mem_cons_of_mem _ ?_ | refine List.mem_append_right _ ?_))); (case hm => omega); (case hm2 => omega); k_whole); (intro found' u3' news' h' tk' F' N' I' hkp' hf0 hf1); (try k_fold)))
local macro_rules | `(tactic| walk_at "subscriptTail") => `(tactic| (k_here; (with_reducible show wpAny _ _ (subscriptTail _ _ (Value.ref _) (Value.int _ _)) _ _ _); k_dflt (refine' item_led ?N ?hm ?h0 ?h1 (sigs_at' _ ?h2 ?h3) ?_; (case N => k_asm); (case hm => k_mem); (case h0 => omega); (case h1 => omega); (case h2 => omega); (case h3 => omega); k_whole)))
local macro_rules | `(tactic| walk_at "exec Assign cons ListComp") => `(tactic| (k_here; refine' hold_out ?_))

theorem bnd6 {x : Int} (h0 : 0 ≤ x) (h6 : x < 6) : -1 ≤ x - 1 ∧ x - 1 ≤ 4 := by omega
set_option maxRecDepth 100000 in
set_option maxHeartbeats 8000000 in
theorem lapR {w : World} {p : Program} {loose : List Str} {mean : ExcName → Option Value} {mg mb : Str → Option Value} {qual : Str}
    {dp un : Nat} {gd : Option (List Code)} {a : Addr} {ccd : Value} {ca : Addr} {outer : List Env} {A₀ : Around} {base h₀ : Heap} {L : Addr} {s : Shared} {Q : Flow → Shared → Prop} {E : Value → Shared → Prop} {news : Led}
    (B : Below A₀ base outer h₀) (X : (Mine.hd.heap_39 w.params).In h₀) (N : News h₀ L s.heap news) (T : Top p loose mean mg mb h₀) (hd : dp + 50 < recursionLimit) (hu : un + 600 < cLine)
   {G : Gs} {ρ : Addr → Option Nat} {f : List Int → Option Value} {waF : Nat → Option Addr} {n nh : Nat} {tS tH : Nat → Int → List Int} (I : Inv w G ρ f waF n nh tS tS news) (Fu : Full G f tS) (hn : n ≤ 20)
   {u : Str → Option Value} (F : Fr h₀ L s.heap (fun y => if y = Str.ofString "store" then some (.ref G.st.st) else if y = Str.ofString "other" then some (.ref G.ot.st) else if y = Str.ofString "held" then some (.ref G.hh) else if y = Str.ofString "design" then some (.ref G.ds) else u y))
   (hca : G.ca = ca)
   (hE : PassesOwn (model PySem.Challenge.rw_pq0454_01.row.prog w) (ktrTop dp un gd qual lawP.1.2 L a ccd [(Str.ofString "source", ca)] outer) (envX qual lawP.1.2 L a ccd [(Str.ofString "source", ca)]) E)
   (ret : ∀ waF' tS' m' news' h' tk', Fr h₀ L h' m' → News h₀ L h' news' → Inv w G ρ f waF' (n + 1) nh tS' tS' news' → Full G f tS' → (∀ q ∈ news, ρ q.1 = none → (∀ k < 4, waF k ≠ some q.1) → q ∈ news') → Has m' [(Str.ofString "store", .ref G.st.st), (Str.ofString "other", .ref G.ot.st), (Str.ofString "held", .ref G.hh), (Str.ofString "design", .ref G.ds)] → Q .next { s with heap := h', toks := tk' }) :
   wpAny (model PySem.Challenge.rw_pq0454_01.row.prog w) (ktrTop dp un gd qual lawP.1.2 L a ccd [(Str.ofString "source", ca)] outer) (execs lapRB.1 (envX qual lawP.1.2 L a ccd [(Str.ofString "source", ca)])) Q E s := by
  dsimp only [lapRB, lawP] at F hE ⊢
  revert X
  k_fill
  intro X
  have hfds := I.ok.fds
  have hfdd := I.ok.fdd
  have hged := I.ok.ged
  have hfsl := I.ok.fsl
  obtain ⟨co, hfca, hcd⟩ := I.ok.fca
  rw [hca] at hfca
  have hrs := I.ok.rsrc
  have hrl := I.ok.rlst
  have hoff0 : ∀ q ∈ news, ρ q.1 = none → q.1 ≠ G.src ∧ q.1 ≠ G.lst := fun q hq hn => ⟨fun e => (by rw [e, hrs] at hn; cases hn), fun e => (by rw [e, hrl] at hn; cases hn)⟩
  k_steps
  rename (0 ≤ (_ : Int)) => hq0
  rename ((_ : Int) < 4) => hq4
  rename (∀ q ∈ news, _ → _ → q ∈ _) => hkpa
  obtain ⟨k, rfl⟩ := Int.eq_ofNat_of_zero_le hq0
  have hk : k < 4 := by omega
  clear hq0 hq4
  dsimp only [Int.toNat_natCast] at *
  have Sk := I.ok.sgs k hk
  obtain ⟨⟨tk0, hkey⟩, ⟨tkd, hkd⟩, ⟨twd, hwd⟩, hnm, him, hnw⟩ := Sk.is
  have hsg := I.ok.fsg k hk
  have hsd := I.ok.fsd k hk
  have hw1 := Sk.w1
  have hw4 := Sk.w4
  rcases hmem : (G.sg k).mem
  · have hfi := Sk.f0 hmem
    k_steps
    refine hold_in ?_
    rename Inv _ _ _ _ _ _ _ _ _ _ => I9
    rename News _ _ _ _ => N9
    rename Fr _ _ _ _ => F9
    rename (∀ q : Addr × Obj, q ∈ (_ : Led) → q.1 ≠ G.src → q.1 ≠ G.lst → q ∈ (_ : Led)) => hkpb
    rename (0 ≤ (_ : Int)) => hq0
    rename ((_ : Int) < 6) => hq6
    have hb6 := bnd6 hq0 hq6
    refine lapP (tH := tS) B X N9 T hd hu I9 F9 hca hE (fun ys cs ny pa u' news' h' tk' hi h1 h3 hc I' hkp hpa F' N' => ?_)
    dsimp only
    refine lapEP (tH := tS) B X T hd hu N' hk hmem I' Fu hn hpa hi h1 h3 hc hb6.1 hb6.2 (spot := 0) (ts := 0) F' hE (fun waF' tS' m' news' h' tk' F' N' I' Fu' hko has' => ret waF' tS' m' news' h' tk' F' N' I' Fu' (fun q hq hn hw => hko q ?_ hn hw) has')
    obtain ⟨x1, x2⟩ := hoff0 q hq hn
    exact hkp q (hkpb q (hkpa q hq x1 x2) x1 x2) x1 x2
  · obtain ⟨tf, hfi⟩ := Sk.f1 hmem
    k_steps
    refine hold_in ?_
    rename Inv _ _ _ _ _ _ _ _ _ _ => I9
    rename News _ _ _ _ => N9
    rename Fr _ _ _ _ => F9
    rename (∀ q : Addr × Obj, q ∈ (_ : Led) → q.1 ≠ G.src → q.1 ≠ G.lst → q ∈ (_ : Led)) => hkpb
    revert hkpb
    rename (∀ q : Addr × Obj, q ∈ (_ : Led) → q.1 ≠ G.src → q.1 ≠ G.lst → q ∈ (_ : Led)) => hkpc
    intro hkpb
    rename (0 ≤ (_ : Int)) => hq0
    rename ((_ : Int) < 6) => hq6
    have hb6 := bnd6 hq0 hq6
    refine lapP (tH := tS) B X N9 T hd hu I9 F9 hca hE (fun ys cs ny pa u' news' h' tk' hi h1 h3 hc I' hkp hpa F' N' => ?_)
    dsimp only
    have hko9 : ∀ q ∈ news, ρ q.1 = none → q ∈ news' := fun q hq hn => by
      obtain ⟨x1, x2⟩ := hoff0 q hq hn
      exact hkp q (hkpb q (hkpc q (hkpa q hq x1 x2) x1 x2) x1 x2) x1 x2
    exact (Classical.em _).elim (fun hv => lapER (tH := tS) B X T hd hu N' hk hmem I' Fu hn hpa hi h1 h3 hc hb6.1 hb6.2 F' hE hv (fun waF' tS' m' news' h' tk' F' N' I' Fu' hko has' => ret waF' tS' m' news' h' tk' F' N' I' Fu' (fun q hq hn hw => hko q (hko9 q hq hn) hn hw) has')) (fun hv => lapEN (tH := tS) B X T hd hu N' hk hmem I' Fu hn hpa hi h1 h3 hc hb6.1 hb6.2 F' hE hv (fun waF' tS' m' news' h' tk' F' N' I' Fu' hko has' => ret waF' tS' m' news' h' tk' F' N' I' Fu' (fun q hq hn hw => hko q (hko9 q hq hn) hn hw) has'))
end
section
local macro_rules | `(tactic| walk_at "exec For Name Call cons nil") => `(tactic| (k_here; (rename Fr _ _ _ _ => lF'); (with_unfolding_all refine' For_invVF lF' ?k1 ?k2 ?_; (case k1 => exact rfl); (case k2 => exact rfl); k_whole)))
local macro_rules | `(tactic| walk_at "exec For Name Attribute cons nil") => `(tactic| (k_here; (rename Fr _ _ _ _ => lF'); (with_unfolding_all refine' For_invVF lF' ?k1 ?k2 ?_; (case k1 => exact rfl); (case k2 => exact rfl); k_whole)))
local macro_rules | `(tactic| walk_at "pyIter ref") => `(tactic| (k_here; refine' hold_out ?_))
local macro_rules | `(tactic| k_mem) => `(tactic| exact Inv.fz (by assumption) _ (by assumption))
local macro_rules | `(tactic| walk_at "call ref") => `(tactic| (k_here; k_dflt (refine' take_inv (Inv.mono ?I ?hs) ?B ?F ?X ?N ?T ?K ?hd ?hu ?hm ?hm2 ?_; (case B => k_asm); (case F => k_asm); (case X => k_asm); (case N => k_asm); (case T => k_asm); (case K => first | exact rfl | assumption); (case hd => ktr_room); (case hu => ktr_units); (case I => assumption); (case hs => (intro q hq; repeat (first | exact hq | refine List.mem_cons_of_mem _ ?_ | refine List.mem_append_right _ ?_))); (case hm => omega); (case hm2 => omega); k_whole); (intro found' u3' news' h' tk' F' N' I' hkp' hf0 hf1); (try k_fold)))
local macro_rules | `(tactic| walk_at "subscriptTail") => `(tactic| (k_here; (with_reducible show wpAny _ _ (subscriptTail _ _ (Value.ref _) (Value.int _ _)) _ _ _); k_dflt (refine' item_led ?N ?hm ?h0 ?h1 (sigs_at' _ ?h2 ?h3) ?_; (case N => k_asm); (case hm => k_mem); (case h0 => omega); (case h1 => omega); (case h2 => omega); (case h3 => omega); k_whole)))

set_option maxRecDepth 100000 in
set_option maxHeartbeats 8000000 in
theorem lapT {w : World} {p : Program} {loose : List Str} {mean : ExcName → Option Value} {mg mb : Str → Option Value} {qual : Str}
    {dp un : Nat} {gd : Option (List Code)} {a : Addr} {ccd : Value} {ca : Addr} {outer : List Env} {A₀ : Around} {base h₀ : Heap} {L : Addr} {s : Shared} {Q : Flow → Shared → Prop} {E : Value → Shared → Prop} {news : Led}
    (B : Below A₀ base outer h₀) (X : (Mine.hd.heap_39 w.params).In h₀) (N : News h₀ L s.heap news) (T : Top p loose mean mg mb h₀) (hd : dp + 50 < recursionLimit) (hu : un + 600 < cLine)
   {G : Gs} {ρ : Addr → Option Nat} {f : List Int → Option Value} {waF : Nat → Option Addr} {n nh : Nat} {tS tH : Nat → Int → List Int} (I : Inv w G ρ f waF n nh tS tS news) (Fu : Full G f tS) (hn : n ≤ 20)
   {u : Str → Option Value} {lap : Int} {tl : Tok} (F : Fr h₀ L s.heap (fun y => if y = Str.ofString "lap" then some (.int lap tl) else if y = Str.ofString "store" then some (.ref G.st.st) else if y = Str.ofString "other" then some (.ref G.ot.st) else if y = Str.ofString "held" then some (.ref G.hh) else if y = Str.ofString "design" then some (.ref G.ds) else u y))
   (hca : G.ca = ca)
   (hE : PassesOwn (model PySem.Challenge.rw_pq0454_01.row.prog w) (ktrTop dp un gd qual lawP.1.2 L a ccd [(Str.ofString "source", ca)] outer) (envX qual lawP.1.2 L a ccd [(Str.ofString "source", ca)]) E)
   (ret : ∀ waF' tS' m' news' h' tk', Fr h₀ L h' m' → News h₀ L h' news' → Inv w G ρ f waF' (n + 1) nh tS' tS' news' → Full G f tS' → (∀ q ∈ news, ρ q.1 = none → (∀ k < 4, waF k ≠ some q.1) → q ∈ news') → Has m' [(Str.ofString "store", .ref G.st.st), (Str.ofString "other", .ref G.ot.st), (Str.ofString "held", .ref G.hh), (Str.ofString "design", .ref G.ds)] → Q .next { s with heap := h', toks := tk' }) :
   wpAny (model PySem.Challenge.rw_pq0454_01.row.prog w) (ktrTop dp un gd qual lawP.1.2 L a ccd [(Str.ofString "source", ca)] outer) (execs lapB.1 (envX qual lawP.1.2 L a ccd [(Str.ofString "source", ca)])) Q E s := by
  dsimp only [lapB, lawP] at F hE ⊢
  revert X
  k_fill
  intro X
  have hfds := I.ok.fds
  have hfdd := I.ok.fdd
  have hged := I.ok.ged
  have hfsl := I.ok.fsl
  k_steps
  refine hold_in ?_
  rename Fr _ _ _ _ => F5
  rename News _ _ _ _ => N5
  refine list_rule (fun i m' n' => (∀ q ∈ news, q ∈ n') ∧ Has m' [(Str.ofString "store", .ref G.st.st), (Str.ofString "other", .ref G.ot.st), (Str.ofString "held", .ref G.hh), (Str.ofString "design", .ref G.ds)]) rfl F5 N5 (I.fz _ hfsl) rfl rfl ⟨fun q hq => hq, (has_cons (by exact rfl) (has_cons (by exact rfl) (has_cons (by exact rfl) (has_cons (by exact rfl) (has_nil)))))⟩ (fun i m n j => j.1 _ (I.fz _ hfsl)) ?turn ?done
  case turn =>
    rintro i v m₁ n₁ It it h tk hv ⟨hsub, hps⟩ hic hoff F9 N9
    have hi : i < 4 := (List.getElem?_eq_some_iff.mp hv).1
    obtain rfl : v = .ref (G.sg i).sg := by
      have := sigs_at G hi
      rw [List.getElem?_toArray, show ((i : Nat) : Int).toNat = i from by omega, hv] at this
      exact Option.some.inj this
    have F1 : Fr h₀ L h (fun y => if y = Str.ofString "signal" then some (.ref (G.sg i).sg) else if y = Str.ofString "store" then some (.ref G.st.st) else if y = Str.ofString "other" then some (.ref G.ot.st) else if y = Str.ofString "held" then some (.ref G.hh) else if y = Str.ofString "design" then some (.ref G.ds) else m₁ y) := fr_has F9 hps
    have I1 := I.mono (news' := (It, it) :: n₁) (fun q hq => .tail _ (hsub q hq))
    rcases hmem : (G.sg i).mem
    · refine sigP (tH := tS) B X N9 T hd hu I1 Fu hi hmem F1 hE (fun m' n' h' tk' F' N' sub' has' => TurnPost.end (.inl rfl) F' N' (sub' _ (.head _)) ⟨drp_sub (fun q hq => sub' _ (.tail _ (hsub q hq))) hoff, has'⟩)
    · refine sigM (tH := tS) B X N9 T hd hu I1 Fu hi hmem F1 hE (fun m' n' h' tk' F' N' sub' has' => TurnPost.end (.inl rfl) F' N' (sub' _ (.head _)) ⟨drp_sub (fun q hq => sub' _ (.tail _ (hsub q hq))) hoff, has'⟩)
  case done =>
    rintro m₁ n₁ h tk ⟨hsub, hps⟩ F9 N9
    have F1 : Fr h₀ L h (fun y => if y = Str.ofString "store" then some (.ref G.st.st) else if y = Str.ofString "other" then some (.ref G.ot.st) else if y = Str.ofString "held" then some (.ref G.hh) else if y = Str.ofString "design" then some (.ref G.ds) else m₁ y) := fr_has0 F9 hps
    have N1 : News h₀ L h n₁ := N9
    have I1 := I.mono hsub
    clear F5 N5 F9 N9 hps
    dsimp only
    exact lapR (tH := tS) B X N1 T hd hu I1 Fu hn F1 hca hE (fun waF' tS' m' news' h' tk' F' N' I' Fu' hko has' => ret waF' tS' m' news' h' tk' F' N' I' Fu' (fun q hq => hko q (hsub q hq)) has')

set_option maxRecDepth 100000 in
noncomputable def endB : { b : List Stmt // lawP.1.1.drop 8 = b } := by
  refine' ⟨?b, ?h⟩
  case h => (dsimp only [lawP, stB, forB, List.drop, List.getElem?_cons_succ, List.getElem?_cons_zero]; exact rfl)
end
section
local macro_rules | `(tactic| walk_at "exec For Name Call cons nil") => `(tactic| (k_here; (rename Fr _ _ _ _ => lF'); (with_unfolding_all refine' For_invVF lF' ?k1 ?k2 ?_; (case k1 => exact rfl); (case k2 => exact rfl); k_whole)))
local macro_rules | `(tactic| walk_at "exec For Name Attribute cons nil") => `(tactic| (k_here; (rename Fr _ _ _ _ => lF'); (with_unfolding_all refine' For_invVF lF' ?k1 ?k2 ?_; (case k1 => exact rfl); (case k2 => exact rfl); k_whole)))
local macro_rules | `(tactic| walk_at "pyIter ref") => `(tactic| (k_here; refine' hold_out ?_))
local macro_rules | `(tactic| k_mem) => `(tactic| exact Inv.fz (by assumption) _ (by assumption))
local macro_rules | `(tactic| walk_at "call ref") => `(tactic| (k_here; k_dflt (refine' take_inv (Inv.mono ?I ?hs) ?B ?F ?X ?N ?T ?K ?hd ?hu ?hm ?hm2 ?_; (case B => k_asm); (case F => k_asm); (case X => k_asm); (case N => k_asm); (case T => k_asm); (case K => first | exact rfl | assumption); (case hd => ktr_room); (case hu => ktr_units); (case I => assumption); (case hs => (intro q hq; repeat (first | exact hq | refine List.mem_cons_of_mem _ ?_ | refine List.mem_append_right _ ?_))); (case hm => omega); (case hm2 => omega); k_whole); (intro found' u3' news' h' tk' F' N' I' hkp' hf0 hf1); (try k_fold)))

theorem range12 {k : Nat} (hk : k < 11) : Builtin.Range.small 0 ((k : Int) + 1) 1 = true ∧ Builtin.Range.rangeSize 0 ((k : Int) + 1) 1 = ((k + 1 : Nat) : Int) := by
  have : k = 0 ∨ k = 1 ∨ k = 2 ∨ k = 3 ∨ k = 4 ∨ k = 5 ∨ k = 6 ∨ k = 7 ∨ k = 8 ∨ k = 9 ∨ k = 10 := by omega
  rcases this with rfl | rfl | rfl | rfl | rfl | rfl | rfl | rfl | rfl | rfl | rfl <;> decide
set_option maxRecDepth 100000 in
set_option maxHeartbeats 8000000 in
theorem endT {w : World} {p : Program} {loose : List Str} {mean : ExcName → Option Value} {mg mb : Str → Option Value} {qual : Str}
    {dp un : Nat} {gd : Option (List Code)} {a : Addr} {ccd : Value} {ca : Addr} {outer : List Env} {A₀ : Around} {base h₀ : Heap} {L : Addr} {s : Shared} {Q : Flow → Shared → Prop} {E : Value → Shared → Prop} {news : Led}
    (B : Below A₀ base outer h₀) (X : (Mine.hd.heap_39 w.params).In h₀) (N : News h₀ L s.heap news) (T : Top p loose mean mg mb h₀) (hd : dp + 50 < recursionLimit) (hu : un + 600 < cLine)
   {G : Gs} {ρ : Addr → Option Nat} {f : List Int → Option Value} {waF : Nat → Option Addr} {n nh : Nat} {tS tH : Nat → Int → List Int} (I : Inv w G ρ f waF 0 nh tS tS news) (Fu : Full G f tS)
   {u : Str → Option Value} (F : Fr h₀ L s.heap (fun y => if y = Str.ofString "store" then some (.ref G.st.st) else if y = Str.ofString "other" then some (.ref G.ot.st) else if y = Str.ofString "held" then some (.ref G.hh) else if y = Str.ofString "design" then some (.ref G.ds) else u y))
   (hca : G.ca = ca)
   (hE : PassesOwn (model PySem.Challenge.rw_pq0454_01.row.prog w) (ktrTop dp un gd qual lawP.1.2 L a ccd [(Str.ofString "source", ca)] outer) (envX qual lawP.1.2 L a ccd [(Str.ofString "source", ca)]) E)
   (ret : ∀ m' news' h' tk', Fr h₀ L h' m' → News h₀ L h' news' → Q (.ret (.bool true)) { s with heap := h', toks := tk' }) :
   wpAny (model PySem.Challenge.rw_pq0454_01.row.prog w) (ktrTop dp un gd qual lawP.1.2 L a ccd [(Str.ofString "source", ca)] outer) (execs endB.1 (envX qual lawP.1.2 L a ccd [(Str.ofString "source", ca)])) Q E s := by
  dsimp only [endB, lawP] at F hE ⊢
  revert X
  k_fill
  intro X
  obtain ⟨co, hfca, hcd⟩ := I.ok.fca
  rw [hca] at hfca
  k_steps
  refine hold_in ?_
  rename IsRange _ _ _ _ _ _ _ _ => rg
  rename Fr _ _ _ _ => F5
  rename News _ _ _ _ => N5
  rename Inv _ _ _ _ _ _ _ _ _ _ => I5
  rename (0 ≤ (_ : Int)) => hq0
  rename ((_ : Int) < 11) => hq11
  obtain ⟨c0, rfl⟩ := Int.eq_ofNat_of_zero_le hq0
  have hc0 : c0 < 11 := by omega
  refine range_rule (n := c0 + 1) (fun i m' n' => ∃ waF tS, Inv w G ρ f waF i nh tS tS n' ∧ Full G f tS ∧ Has m' [(Str.ofString "store", .ref G.st.st), (Str.ofString "other", .ref G.ot.st), (Str.ofString "held", .ref G.hh), (Str.ofString "design", .ref G.ds)]) rfl rg (range12 hc0).1 (range12 hc0).2 F5 N5 ⟨waF, tS, I5, Fu, (has_cons (by exact rfl) (has_cons (by exact rfl) (has_cons (by exact rfl) (has_cons (by exact rfl) (has_nil)))))⟩ ?turn ?done
  case turn =>
    rintro i m₁ n₁ It it t h tk hi ⟨waF, tS, I1, Fu, hps⟩ hic hoff F9 N9
    have F1 : Fr h₀ L h (fun y => if y = Str.ofString "lap" then some (.int (0 + (i : Int)) t) else if y = Str.ofString "store" then some (.ref G.st.st) else if y = Str.ofString "other" then some (.ref G.ot.st) else if y = Str.ofString "held" then some (.ref G.hh) else if y = Str.ofString "design" then some (.ref G.ds) else m₁ y) := fr_has F9 hps
    have I2 := I1.mono (news' := (It, it) :: n₁) (fun q hq => .tail _ hq)
    have hρI : ρ It = none := I5.fresh hoff
    refine lapT (tH := tS) B X N9 T hd hu I2 Fu (by omega) F1 hca hE (fun waF' tS' m' news' h' tk' F' N' I' Fu' hko has' => ?_)
    have hIm := hko _ (.head _) hρI (fun k hk e => by
      cases hm : (G.sg k).mem with
      | false => rw [I2.waN k hk hm] at e; cases e
      | true =>
        obtain ⟨_, ow, hw, hdd⟩ := I2.wa hk hm e
        rw [led_fun N9 hw (.head _), hic] at hdd
        exact absurd (Value.type.inj hdd) (by decide))
    exact TurnPost.end (.inl rfl) F' N' hIm ⟨waF', tS', I'.dropIt N' hIm (.inl hic) hρI, Fu', has'⟩
  case done =>
    rintro m₁ n₁ h tk ⟨waF, tS, I1, Fu, hps⟩ F9 N9
    have F1 : Fr h₀ L h (fun y => if y = Str.ofString "store" then some (.ref G.st.st) else if y = Str.ofString "other" then some (.ref G.ot.st) else if y = Str.ofString "held" then some (.ref G.hh) else if y = Str.ofString "design" then some (.ref G.ds) else m₁ y) := fr_has0 F9 hps
    have N1 : News h₀ L h n₁ := N9
    clear F5 N5 F9 N9 rg
    dsimp only
    k_steps
    exact ret _ _ _ _ (by assumption) (by assumption)
end
section

section
variable {w : World} {G : Gs} {ρ : Addr → Option Nat} {f : List Int → Option Value} {waF : Nat → Option Addr} {n nh : Nat} {tS tH : Nat → Int → List Int} {news news' : Led} {h₀ h : Heap} {L : Addr}
theorem Inv.newRow (I : Inv w G ρ f (fun _ => none) n nh tS tH news) {k : Nat} {s : Int} {ra : Addr} {vs : List Value} {nn : Nat} (hk : k < 4) (hs0 : 0 ≤ s) (hs1 : s < 100) (hm : (ra, listOf vs.toArray nn) ∈ news) (hi : IntsAre vs (tH k s)) (hρ : ρ ra = none) {o' : Obj} (hhm : (G.hh, o') ∈ news') (hhc : o'.cls = .type "dict")
    (hkeep : ∀ q ∈ news, q.1 ≠ G.hh → q ∈ news') (N : News h₀ L h news)
    (T : HTab PySem.Challenge.rw_pq0454_01.row.prog w news' G.hh (nh + 1) (fun ks => if ks = [(k : Int), s] then some (.ref ra) else f ks)) :
    Inv w G (fun a => if a = ra then some (100 + 100 * k + s.toNat) else ρ a) (fun ks => if ks = [(k : Int), s] then some (.ref ra) else f ks) (fun _ => none) n (nh + 1) tS tH news' := by
  have hne : ∀ {a : Addr} {r : Nat}, ρ a = some r → a ≠ ra := fun h e => by rw [e, hρ] at h; cases h
  have hold : ∀ {a : Addr} {r : Nat}, ρ a = some r → (if a = ra then some (100 + 100 * k + s.toNat) else ρ a) = some r := fun h => (if_neg (hne h)).trans h
  have hrole : ∀ q ∈ news, ∀ r, ρ q.1 = some r → r ≠ 5 → q ∈ news' := fun q hq r h1 h2 => hkeep q hq fun e => by rw [e, I.ok.rhh] at h1; injection h1 with h1; exact h2 h1.symm
  have hrh : ra ≠ G.hh := fun e => by rw [e, I.ok.rhh] at hρ; cases hρ
  have ht : ∀ q ∈ news, q.2.cls = .type "tuple" → q ∈ news' := fun q hq hc => hkeep q hq fun e => by
    obtain ⟨a, o⟩ := q
    exact htab_ne I.held N hq (by rw [hc]; decide) e
  have O := I.ok
  refine ⟨⟨O.sgs, O.fsg, O.fsd, O.fsl, O.fds, O.fdd, O.ged, O.fst, O.fsx, O.gst, O.lv, O.lm, O.fot, O.fox, O.got, O.lov, O.lom, O.fov, O.dov, O.fom, O.dom, O.fca, fun q hq => hold (O.rfz q hq), fun a h => ?_, hold O.rsrc, hold O.rlst, hold O.rvd, hold O.rmd, hold O.rhh⟩, ?_, fun q hq => hrole q (I.fz q hq) 0 (I.ok.rfz q hq) (by decide), fun a r h1 h2 => ?_, ?_, ?_, I.waN, I.waI, T, fun k2 hk2 s2 v hf2 => ?_, I.okS, I.okH⟩
  · by_cases e : a = ra
    · rw [if_pos e] at h; injection h with h; omega
    · rw [if_neg e] at h; exact O.r0 a h
  · obtain ⟨cur, seed, t1, t2, n1, vs, ns, n2, m1, m2, r⟩ := I.src
    exact ⟨cur, seed, t1, t2, n1, vs, ns, n2, hrole _ m1 1 I.ok.rsrc (by decide), hrole _ m2 2 I.ok.rlst (by decide), r⟩
  · by_cases e : a = ra
    · subst e
      exact ⟨_, hkeep _ hm hrh, by exact fun e => absurd (Value.type.inj e) (by decide), by exact fun e => absurd (Value.type.inj e) (by decide)⟩
    · have h1' : (if a = ra then some (100 + 100 * k + s.toNat) else ρ a) = some r := h1
      rw [if_neg e] at h1'
      by_cases e2 : a = G.hh
      · subst e2
        exact ⟨o', hhm, by rw [hhc]; decide, by rw [hhc]; decide⟩
      · obtain ⟨o, hm, hc⟩ := I.dom a r h1' h2
        exact ⟨o, hkeep _ hm e2, hc⟩
  · obtain ⟨ov, kvs, m, d, l, c⟩ := I.vals
    exact ⟨ov, kvs, hrole _ m 3 I.ok.rvd (by decide), d, l, fun k2 hk2 hm2 => (c k2 hk2 hm2).sub ht⟩
  · obtain ⟨om, kvm, m, d, l, c⟩ := I.mems
    refine ⟨om, kvm, hrole _ m 4 I.ok.rmd (by decide), d, l, fun k2 hk2 hm2 => ?_⟩
    rcases c k2 hk2 hm2 with h | ⟨wa, ow, kvw, e1, e2, _⟩
    · exact .inl h
    · cases e2
  · have hf2' : (if [(k2 : Int), s2] = [(k : Int), s] then some (.ref ra) else f [(k2 : Int), s2]) = some v := hf2
    by_cases e : [(k2 : Int), s2] = [(k : Int), s]
    · rw [if_pos e] at hf2'
      injection hf2' with hf2'
      simp only [List.cons.injEq, and_true] at e
      obtain ⟨e1, e2⟩ := e
      have e1' : k2 = k := by omega
      subst e1' e2
      exact ⟨ra, vs, nn, hf2'.symm, hkeep _ hm hrh, hi, if_pos rfl, hs0, hs1⟩
    · rw [if_neg e] at hf2'
      obtain ⟨a, vs, nn, e, m, r, e2, b⟩ := I.rows k2 hk2 s2 v hf2'
      exact ⟨a, vs, nn, e, hrole _ m _ e2 (by omega), r, hold e2, b⟩
end
theorem range_w {W : Int} (h1 : 1 ≤ W) (h3 : W ≤ 3) : Builtin.Range.small 0 W 1 = true ∧ Builtin.Range.rangeSize 0 W 1 = ((W.toNat : Nat) : Int) := by
  have : W = 1 ∨ W = 2 ∨ W = 3 := by omega
  rcases this with rfl | rfl | rfl <;> decide

set_option maxRecDepth 100000 in
noncomputable def heldB : { b : List Stmt // stB (stB lawP.1.1 7) 1 = b } := by
  refine' ⟨?b, ?h⟩
  case h => (dsimp only [lawP, stB, forB, List.drop, List.getElem?_cons_succ, List.getElem?_cons_zero]; exact rfl)

set_option maxRecDepth 100000 in
noncomputable def sevB : { b : List Stmt // stB lawP.1.1 7 = b } := by
  refine' ⟨?b, ?h⟩
  case h => (dsimp only [lawP, stB, forB, List.drop, List.getElem?_cons_succ, List.getElem?_cons_zero]; exact rfl)

set_option maxRecDepth 100000 in
noncomputable def sevE : { b : List Stmt // lawP.1.1.drop 7 = b } := by
  refine' ⟨?b, ?h⟩
  case h => (dsimp only [lawP, stB, forB, List.drop, List.getElem?_cons_succ, List.getElem?_cons_zero]; exact rfl)
end
section
local macro_rules | `(tactic| k_mem) => `(tactic| exact Inv.fz (by assumption) _ (by assumption))
local macro_rules | `(tactic| walk_at "setItem ref ref") => `(tactic| (k_here; k_dflt (refine' htab_set ?hu ?F ?N ?T ?ka (tk2 _ _ _ _) ?hz ?_; (case hu => ktr_units); (case F => k_asm); (case N => k_asm); (case T => exact HTab.sub (by assumption) (by intro q hq; repeat (first | exact hq | refine List.mem_cons_of_mem _ ?_ | refine List.mem_append_right _ ?_))); (case ka => k_mem); (case hz => omega)); intro h' o' F' N' T'))

set_option maxRecDepth 100000 in
set_option maxHeartbeats 8000000 in
theorem heldT {w : World} {p : Program} {loose : List Str} {mean : ExcName → Option Value} {mg mb : Str → Option Value} {qual : Str}
    {dp un : Nat} {gd : Option (List Code)} {a : Addr} {ccd : Value} {ca : Addr} {outer : List Env} {A₀ : Around} {base h₀ : Heap} {L : Addr} {s : Shared} {Q : Flow → Shared → Prop} {E : Value → Shared → Prop} {news : Led}
    (B : Below A₀ base outer h₀) (X : (Mine.hd.heap_39 w.params).In h₀) (N : News h₀ L s.heap news) (T : Top p loose mean mg mb h₀) (hd : dp + 50 < recursionLimit) (hu : un + 600 < cLine)
   {G : Gs} {ρ : Addr → Option Nat} {f : List Int → Option Value} {waF : Nat → Option Addr} {n nh : Nat} {tS tH : Nat → Int → List Int} (I : Inv w G ρ f (fun _ => none) n nh tS tS news) {k : Nat} (hk : k < 4) {sp b : Int} (hs0 : 0 ≤ sp) (hs1 : sp < 100) (hbl : tS k sp = (List.replicate (G.sg k).wd.toNat [b]).flatten) (hnh : nh ≤ 60)
   {u : Str → Option Value} {ts tb : Tok} (F : Fr h₀ L s.heap (fun y => if y = Str.ofString "spot" then some (.int sp ts) else if y = Str.ofString "blank" then some (.int b tb) else if y = Str.ofString "signal" then some (.ref (G.sg k).sg) else if y = Str.ofString "store" then some (.ref G.st.st) else if y = Str.ofString "other" then some (.ref G.ot.st) else if y = Str.ofString "held" then some (.ref G.hh) else if y = Str.ofString "design" then some (.ref G.ds) else u y))
   (hE : PassesOwn (model PySem.Challenge.rw_pq0454_01.row.prog w) (ktrTop dp un gd qual lawP.1.2 L a ccd [(Str.ofString "source", ca)] outer) (envX qual lawP.1.2 L a ccd [(Str.ofString "source", ca)]) E)
   (ret : ∀ ρ' v news' h' tk', Fr h₀ L h' (fun y => if y = Str.ofString "spot" then some (.int sp ts) else if y = Str.ofString "blank" then some (.int b tb) else if y = Str.ofString "signal" then some (.ref (G.sg k).sg) else if y = Str.ofString "store" then some (.ref G.st.st) else if y = Str.ofString "other" then some (.ref G.ot.st) else if y = Str.ofString "held" then some (.ref G.hh) else if y = Str.ofString "design" then some (.ref G.ds) else u y) → News h₀ L h' news' → Inv w G ρ' (fun ks => if ks = [(k : Int), sp] then some v else f ks) (fun _ => none) n (nh + 1) tS tS news' → (∀ q ∈ news, q.1 ≠ G.hh → q ∈ news') → (∀ q ∈ news, ρ q.1 = none → ρ' q.1 = none) → Q .next { s with heap := h', toks := tk' }) :
   wpAny (model PySem.Challenge.rw_pq0454_01.row.prog w) (ktrTop dp un gd qual lawP.1.2 L a ccd [(Str.ofString "source", ca)] outer) (execs heldB.1 (envX qual lawP.1.2 L a ccd [(Str.ofString "source", ca)])) Q E s := by
  dsimp only [heldB, lawP] at F hE ⊢
  revert X
  k_fill
  intro X
  have Sk := I.ok.sgs k hk
  obtain ⟨⟨tk0, hkey⟩, ⟨tkd, hkd⟩, ⟨twd, hwd⟩, hnm, him, hnw⟩ := Sk.is
  have hsg := I.ok.fsg k hk
  have hsd := I.ok.fsd k hk
  have hw1 := Sk.w1
  have hw4 := Sk.w4
  have hheld := I.held
  k_steps
  rename HTab _ _ _ _ _ _ => T9
  rename IntsAre _ _ => i9
  rename (_ < _ ∧ AllLt _ news) => hal
  rename Fr _ _ _ _ => F9
  rename News _ _ _ _ => N9
  revert N9
  rename News _ _ _ _ => N8
  intro N9
  rw [← hbl] at i9
  have hnew := kst_ltOf hal.2
  have hρ : ρ _ = none := I.fresh fun q hq => Nat.ne_of_lt (hnew q hq)
  have hcd : _ = Value.type "dict" := Classical.byContradiction fun hc => htab_ne T9 N9 (.head _) hc rfl
  refine ret _ _ _ _ _ F9 N9 (Inv.newRow (I.mono fun q hq => .tail _ (.tail _ (.tail _ hq))) hk hs0 hs1 (.tail _ (.head _)) i9 hρ (.head _) hcd (fun q hq hn => .tail _ (mem_drp.mpr ⟨hq, hn⟩)) N8 T9) (fun q hq hn => .tail _ (mem_drp.mpr ⟨.tail _ (.tail _ (.tail _ hq)), hn⟩)) (fun q hq hn => ?_)
  have hne := Nat.ne_of_lt (hnew q hq)
  exact (if_neg hne).trans hn

section
variable {w : World} {G : Gs} {ρ : Addr → Option Nat} {f : List Int → Option Value} {waF : Nat → Option Addr} {n nh : Nat} {tS tH : Nat → Int → List Int} {news news' : Led} {h₀ h : Heap} {L : Addr}
theorem Inv.itNone (I : Inv w G ρ f waF n nh tS tH news) {It : Addr} {it : Obj} (N : News h₀ L h ((It, it) :: news)) (hic : it.cls = .type "range_iterator" ∨ it.cls = .type "list_iterator") (hoff : ∀ q ∈ G.fz, q.1 ≠ It) : ρ It = none := by
  cases hr : ρ It with
  | none => rfl
  | some r =>
    by_cases h0 : r = 0
    · subst h0
      obtain ⟨o, ho⟩ := I.ok.r0 It hr
      exact absurd rfl (hoff _ ho)
    · obtain ⟨o, hm, hc⟩ := I.dom It r hr h0
      have := led_fun N (.tail _ hm) (.head _)
      subst this
      rcases hic with h | h
      · exact absurd h hc.2
      · exact absurd h hc.1
end
def Upto (G : Gs) (f : List Int → Option Value) (k : Nat) (i : Int) : Prop := ∀ k2 : Nat, k2 < 4 → ∀ s, (f [(k2 : Int), s]).isSome = true ↔ (k2 < k ∧ 0 ≤ s ∧ s < (G.sg k2).words) ∨ (k2 = k ∧ 0 ≤ s ∧ s < i)
theorem Upto.next {G : Gs} {f : List Int → Option Value} {k i : Nat} {v : Value} (h : Upto G f k i) : Upto G (fun ks => if ks = [(k : Int), (i : Int)] then some v else f ks) k ((i + 1 : Nat) : Int) := by
  intro k2 hk2 s
  by_cases e : [(k2 : Int), s] = [(k : Int), (i : Int)]
  · show ((if [(k2 : Int), s] = [(k : Int), (i : Int)] then some v else f [(k2 : Int), s]).isSome = true) ↔ _
    rw [if_pos e]
    simp only [List.cons.injEq, and_true] at e
    simp only [Option.isSome_some, true_iff]
    omega
  · show ((if [(k2 : Int), s] = [(k : Int), (i : Int)] then some v else f [(k2 : Int), s]).isSome = true) ↔ _
    rw [if_neg e, h k2 hk2 s]
    simp only [List.cons.injEq, and_true, not_and] at e
    constructor
    · rintro (h | h)
      · exact .inl h
      · exact .inr ⟨h.1, h.2.1, by omega⟩
    · rintro (h | h)
      · exact .inl h
      · refine .inr ⟨h.1, h.2.1, ?_⟩
        have := e (by omega)
        omega
theorem Upto.done {G : Gs} {f : List Int → Option Value} {k : Nat} (h : Upto G f k (G.sg k).words) : Upto G f (k + 1) 0 := by
  intro k2 hk2 s
  rw [h k2 hk2 s]
  constructor
  · rintro (h | h)
    · exact .inl ⟨by omega, h.2⟩
    · obtain ⟨rfl, h⟩ := h
      exact .inl ⟨by omega, h⟩
  · rintro (h | h)
    · by_cases e : k2 = k
      · subst e; exact .inr ⟨rfl, h.2⟩
      · exact .inl ⟨by omega, h.2⟩
    · omega

theorem con_words_S {w : World} {p : Program} {loose : List Str} {mean : ExcName → Option Value} {mg mb : Str → Option Value} {S : Sg} {k : Nat} (O : S.Ok k) :
    Con w p loose mean mg mb 154 3 24 [.ref S.sg] (fun news => (S.sg, instObj 171 S.sd) ∈ news ∧ (S.sd, dictOf S.es S.ne) ∈ news) (fun news r news' => news = news' ∧ ∃ t', r = .int S.words t') := by
  cases hm : S.mem with
  | false =>
    have hw : S.words = 1 := by unfold Sg.words; rw [hm]; rfl
    rw [hw]
    exact con_words_n (O.f0 hm)
  | true =>
    obtain ⟨t, h1⟩ := O.f1 hm
    obtain ⟨u, h2⟩ := O.f2 hm
    rw [Sg.words_m hm]
    exact con_words_i h1 h2 O.a1 O.a2 O.b1 O.b2
theorem Sg.words1 {S : Sg} : 1 ≤ S.words := by
  unfold Sg.words
  split
  · split <;> omega
  · decide
end
section
local macro_rules | `(tactic| walk_at "exec For Name Call cons nil") => `(tactic| (k_here; (rename Fr _ _ _ _ => lF'); (with_unfolding_all refine' For_invVF lF' ?k1 ?k2 ?_; (case k1 => exact rfl); (case k2 => exact rfl); k_whole)))
local macro_rules | `(tactic| walk_at "exec For Name Attribute cons nil") => `(tactic| (k_here; (rename Fr _ _ _ _ => lF'); (with_unfolding_all refine' For_invVF lF' ?k1 ?k2 ?_; (case k1 => exact rfl); (case k2 => exact rfl); k_whole)))
local macro_rules | `(tactic| walk_at "pyIter ref") => `(tactic| (k_here; refine' hold_out ?_))
local macro_rules | `(tactic| walk_at "call ref") => `(tactic| (k_here; k_dflt (refine' con_use (con_words_S ?O) ?B ?F ?X ?N ?T ?K ?hp ?hd ?hu ?_; (case B => k_asm); (case F => k_asm); (case X => k_asm); (case N => k_asm); (case T => k_asm); (case K => first | exact rfl | assumption); (case hd => ktr_room); (case hu => ktr_units); (case hp => exact ⟨by k_mem, by k_mem⟩); (case O => assumption); k_whole); intro r' news' h' tk' F' N' hpost; (obtain ⟨hn', t', hr'⟩ := hpost); subst hn'; subst hr'; (try k_fold)))

set_option maxRecDepth 100000 in
set_option maxHeartbeats 8000000 in
theorem sigH {w : World} {p : Program} {loose : List Str} {mean : ExcName → Option Value} {mg mb : Str → Option Value} {qual : Str}
    {dp un : Nat} {gd : Option (List Code)} {a : Addr} {ccd : Value} {ca : Addr} {outer : List Env} {A₀ : Around} {base h₀ : Heap} {L : Addr} {s : Shared} {Q : Flow → Shared → Prop} {E : Value → Shared → Prop} {news : Led}
    (B : Below A₀ base outer h₀) (X : (Mine.hd.heap_39 w.params).In h₀) (N : News h₀ L s.heap news) (T : Top p loose mean mg mb h₀) (hd : dp + 50 < recursionLimit) (hu : un + 600 < cLine)
   {G : Gs} {ρ : Addr → Option Nat} {f : List Int → Option Value}  {nh : Nat}  (I : Inv w G ρ f (fun _ => none) 0 nh (fun k _ => (G.sg k).blank) (fun k _ => (G.sg k).blank) news) {k : Nat} (hk : k < 4) (hnh : nh ≤ 3 * k) (hf : Upto G f k 0)
   {u : Str → Option Value} (F : Fr h₀ L s.heap (fun y => if y = Str.ofString "signal" then some (.ref (G.sg k).sg) else if y = Str.ofString "store" then some (.ref G.st.st) else if y = Str.ofString "other" then some (.ref G.ot.st) else if y = Str.ofString "held" then some (.ref G.hh) else if y = Str.ofString "design" then some (.ref G.ds) else u y))
   (hE : PassesOwn (model PySem.Challenge.rw_pq0454_01.row.prog w) (ktrTop dp un gd qual lawP.1.2 L a ccd [(Str.ofString "source", ca)] outer) (envX qual lawP.1.2 L a ccd [(Str.ofString "source", ca)]) E)
   (ret : ∀ ρ' f' nh' m' news' h' tk', Fr h₀ L h' m' → News h₀ L h' news' → Inv w G ρ' f' (fun _ => none) 0 nh' (fun k _ => (G.sg k).blank) (fun k _ => (G.sg k).blank) news' → nh' ≤ 3 * (k + 1) → Upto G f' (k + 1) 0 → (∀ q ∈ news, q.1 ≠ G.hh → q ∈ news') → (∀ q ∈ news, ρ q.1 = none → ρ' q.1 = none) → Has m' [(Str.ofString "store", .ref G.st.st), (Str.ofString "other", .ref G.ot.st), (Str.ofString "held", .ref G.hh), (Str.ofString "design", .ref G.ds)] → Q .next { s with heap := h', toks := tk' }) :
   wpAny (model PySem.Challenge.rw_pq0454_01.row.prog w) (ktrTop dp un gd qual lawP.1.2 L a ccd [(Str.ofString "source", ca)] outer) (execs sevB.1 (envX qual lawP.1.2 L a ccd [(Str.ofString "source", ca)])) Q E s := by
  dsimp only [sevB, lawP] at F hE ⊢
  revert X
  k_fill
  intro X
  have Sk := I.ok.sgs k hk
  obtain ⟨_, _, _, hnm, him, hnw⟩ := Sk.is
  refine wpAny_execs_cons ?_
  refine blankU (tH := (fun k _ => (G.sg k).blank)) (waF := (fun _ => none)) (n := 0) B X N T hd hu I hk F hE (fun tb0 n0 h0 tk0 F0 N0 sub0 => ?_)
  have hsg := sub0 _ (I.fz _ (I.ok.fsg k hk))
  have hsd := sub0 _ (I.fz _ (I.ok.fsd k hk))
  dsimp only
  k_steps
  refine hold_in ?_
  rename IsRange _ _ _ _ _ _ _ _ => rg
  rename Fr _ _ _ _ => F5
  rename News _ _ _ _ => N5
  have hW1 := @Sg.words1 (G.sg k)
  have hW3 := Sk.ww
  refine range_rule (n := Int.toNat (G.sg k).words) (fun i m' n' => ∃ ρ' f' nh', Inv w G ρ' f' (fun _ => none) 0 nh' (fun k _ => (G.sg k).blank) (fun k _ => (G.sg k).blank) n' ∧ nh' ≤ nh + i ∧ Upto G f' k (i : Int) ∧ (∀ q ∈ news, q.1 ≠ G.hh → q ∈ n') ∧ (∀ q ∈ news, ρ q.1 = none → ρ' q.1 = none) ∧ ∃ tb, Has m' [(Str.ofString "blank", .int (blk (G.sg k).net) tb), (Str.ofString "signal", .ref (G.sg k).sg), (Str.ofString "store", .ref G.st.st), (Str.ofString "other", .ref G.ot.st), (Str.ofString "held", .ref G.hh), (Str.ofString "design", .ref G.ds)]) rfl rg (range_w hW1 hW3).1 (range_w hW1 hW3).2 F5 N5 ⟨ρ, f, nh, I.mono sub0, by omega, hf, fun q hq _ => sub0 q hq, fun q hq h => h, _, (has_cons (by exact rfl) (has_cons (by exact rfl) (has_cons (by exact rfl) (has_cons (by exact rfl) (has_cons (by exact rfl) (has_cons (by exact rfl) (has_nil)))))))⟩ ?turn ?done
  case turn =>
    rintro i m₁ n₁ It it t h tk hi ⟨ρ', f', nh', I1, hn1, hf1, hk1, hρ1, tb, hps⟩ hic hoff F9 N9
    rw [Int.zero_add] at F9
    have F1 : Fr h₀ L h (fun y => if y = Str.ofString "spot" then some (.int (i : Int) t) else if y = Str.ofString "blank" then some (.int (blk (G.sg k).net) tb) else if y = Str.ofString "signal" then some (.ref (G.sg k).sg) else if y = Str.ofString "store" then some (.ref G.st.st) else if y = Str.ofString "other" then some (.ref G.ot.st) else if y = Str.ofString "held" then some (.ref G.hh) else if y = Str.ofString "design" then some (.ref G.ds) else m₁ y) := fr_has F9 hps
    have I2 := I1.mono (news' := (It, it) :: n₁) (fun q hq => .tail _ hq)
    have hρI : ρ' It = none := I1.itNone N9 (.inl hic) (fun q hq => hoff q (sub0 q (I.fz q hq)))
    have hIh : It ≠ G.hh := fun e => by rw [e, I1.ok.rhh] at hρI; cases hρI
    refine heldT (tH := (fun k _ => (G.sg k).blank)) (waF := (fun _ => none)) B X N9 T hd hu I2 hk (by omega) (by omega) rfl (by omega) F1 hE (fun ρ'' v n'' h' tk' F' N' I' hkq hρq => TurnPost.end (.inl rfl) F' N' (hkq _ (.head _) hIh) ⟨ρ'', _, _, I'.dropIt N' (hkq _ (.head _) hIh) (.inl hic) (hρq _ (.head _) hρI), by omega, hf1.next, fun q hq hn => mem_drp.mpr ⟨hkq q (.tail _ (hk1 q hq hn)) hn, hoff q (sub0 q hq)⟩, fun q hq hn => ?_, tb, (has_cons (by exact rfl) (has_cons (by exact rfl) (has_cons (by exact rfl) (has_cons (by exact rfl) (has_cons (by exact rfl) (has_cons (by exact rfl) (has_nil)))))))⟩)
    by_cases e : q.1 = G.hh
    · rw [e, I.ok.rhh] at hn; cases hn
    · exact hρq q (.tail _ (hk1 q hq e)) (hρ1 q hq hn)
  case done =>
    rintro m₁ n₁ h tk ⟨ρ', f', nh', I1, hn1, hf1, hk1, hρ1, tb, hps⟩ F9 N9
    have N1 : News h₀ L h n₁ := N9
    have F1 : Fr h₀ L h m₁ := F9
    rw [show ((Int.toNat (G.sg k).words : Nat) : Int) = (G.sg k).words from by omega] at hf1
    dsimp only
    k_steps
    exact ret ρ' f' nh' m₁ n₁ _ _ (by assumption) (by assumption) I1 (by omega) hf1.done hk1 hρ1 (fun p hp => hps p (.tail _ (.tail _ hp)))
end
section
local macro_rules | `(tactic| walk_at "exec For Name Call cons nil") => `(tactic| (k_here; (rename Fr _ _ _ _ => lF'); (with_unfolding_all refine' For_invVF lF' ?k1 ?k2 ?_; (case k1 => exact rfl); (case k2 => exact rfl); k_whole)))
local macro_rules | `(tactic| walk_at "exec For Name Attribute cons nil") => `(tactic| (k_here; (rename Fr _ _ _ _ => lF'); (with_unfolding_all refine' For_invVF lF' ?k1 ?k2 ?_; (case k1 => exact rfl); (case k2 => exact rfl); k_whole)))
local macro_rules | `(tactic| walk_at "pyIter ref") => `(tactic| (k_here; refine' hold_out ?_))
local macro_rules | `(tactic| k_mem) => `(tactic| exact Inv.fz (by assumption) _ (by assumption))

set_option maxRecDepth 100000 in
set_option maxHeartbeats 8000000 in
theorem sevT {w : World} {p : Program} {loose : List Str} {mean : ExcName → Option Value} {mg mb : Str → Option Value} {qual : Str}
    {dp un : Nat} {gd : Option (List Code)} {a : Addr} {ccd : Value} {ca : Addr} {outer : List Env} {A₀ : Around} {base h₀ : Heap} {L : Addr} {s : Shared} {Q : Flow → Shared → Prop} {E : Value → Shared → Prop} {news : Led}
    (B : Below A₀ base outer h₀) (X : (Mine.hd.heap_39 w.params).In h₀) (N : News h₀ L s.heap news) (T : Top p loose mean mg mb h₀) (hd : dp + 50 < recursionLimit) (hu : un + 600 < cLine)
   {G : Gs} {ρ : Addr → Option Nat} (I : Inv w G ρ (fun _ => none) (fun _ => none) 0 0 (fun k _ => (G.sg k).blank) (fun k _ => (G.sg k).blank) news)
   {u : Str → Option Value} (F : Fr h₀ L s.heap (fun y => if y = Str.ofString "store" then some (.ref G.st.st) else if y = Str.ofString "other" then some (.ref G.ot.st) else if y = Str.ofString "held" then some (.ref G.hh) else if y = Str.ofString "design" then some (.ref G.ds) else u y))
   (hca : G.ca = ca)
   (hE : PassesOwn (model PySem.Challenge.rw_pq0454_01.row.prog w) (ktrTop dp un gd qual lawP.1.2 L a ccd [(Str.ofString "source", ca)] outer) (envX qual lawP.1.2 L a ccd [(Str.ofString "source", ca)]) E)
   (ret : ∀ m' news' h' tk', Fr h₀ L h' m' → News h₀ L h' news' → Q (.ret (.bool true)) { s with heap := h', toks := tk' }) :
   wpAny (model PySem.Challenge.rw_pq0454_01.row.prog w) (ktrTop dp un gd qual lawP.1.2 L a ccd [(Str.ofString "source", ca)] outer) (execs sevE.1 (envX qual lawP.1.2 L a ccd [(Str.ofString "source", ca)])) Q E s := by
  dsimp only [sevE, lawP] at F hE ⊢
  revert X
  k_fill
  intro X
  have hfds := I.fz _ I.ok.fds
  have hfdd := I.fz _ I.ok.fdd
  have hged := I.ok.ged
  have hfsl := I.ok.fsl
  k_steps
  refine hold_in ?_
  rename Fr _ _ _ _ => F5
  rename News _ _ _ _ => N5
  refine list_rule (fun i m' n' => (∃ ρ' f' nh', Inv w G ρ' f' (fun _ => none) 0 nh' (fun k _ => (G.sg k).blank) (fun k _ => (G.sg k).blank) n' ∧ nh' ≤ 3 * i ∧ Upto G f' i 0) ∧ Has m' [(Str.ofString "store", .ref G.st.st), (Str.ofString "other", .ref G.ot.st), (Str.ofString "held", .ref G.hh), (Str.ofString "design", .ref G.ds)]) rfl F5 N5 (I.fz _ hfsl) rfl rfl ⟨⟨ρ, _, 0, I, by omega, fun k2 _ s => ⟨fun h => (by cases h), fun h => (by omega)⟩⟩, (has_cons (by exact rfl) (has_cons (by exact rfl) (has_cons (by exact rfl) (has_cons (by exact rfl) (has_nil)))))⟩ (fun i m n j => by obtain ⟨⟨ρ', f', nh', I', _⟩, _⟩ := j; exact I'.fz _ hfsl) ?turn ?done
  case turn =>
    rintro i v m₁ n₁ It it h tk hv ⟨⟨ρ', f', nh', I1, hn1, hf1⟩, hps⟩ hic hoff F9 N9
    have hi : i < 4 := (List.getElem?_eq_some_iff.mp hv).1
    obtain rfl : v = .ref (G.sg i).sg := by
      have := sigs_at G hi
      rw [List.getElem?_toArray, show ((i : Nat) : Int).toNat = i from by omega, hv] at this
      exact Option.some.inj this
    have F1 : Fr h₀ L h (fun y => if y = Str.ofString "signal" then some (.ref (G.sg i).sg) else if y = Str.ofString "store" then some (.ref G.st.st) else if y = Str.ofString "other" then some (.ref G.ot.st) else if y = Str.ofString "held" then some (.ref G.hh) else if y = Str.ofString "design" then some (.ref G.ds) else m₁ y) := fr_has F9 hps
    have I2 := I1.mono (news' := (It, it) :: n₁) (fun q hq => .tail _ hq)
    have hρI : ρ' It = none := I1.itNone N9 (.inr hic) (fun q hq => hoff q (I.fz q hq))
    have hIh : It ≠ G.hh := fun e => by rw [e, I1.ok.rhh] at hρI; cases hρI
    exact sigH B X N9 T hd hu I2 hi (by omega) hf1 F1 hE (fun ρ'' f'' nh'' m' n' h' tk' F' N' I' hn' hf' hkq hρq has' => TurnPost.end (.inl rfl) F' N' (hkq _ (.head _) hIh) ⟨⟨ρ'', f'', nh'', I'.dropIt N' (hkq _ (.head _) hIh) (.inr hic) (hρq _ (.head _) hρI), hn', hf'⟩, has'⟩)
  case done =>
    rintro m₁ n₁ h tk ⟨⟨ρ', f', nh', I1, hn1, hf1⟩, hps⟩ F9 N9
    have F1 : Fr h₀ L h (fun y => if y = Str.ofString "store" then some (.ref G.st.st) else if y = Str.ofString "other" then some (.ref G.ot.st) else if y = Str.ofString "held" then some (.ref G.hh) else if y = Str.ofString "design" then some (.ref G.ds) else m₁ y) := fr_has0 F9 hps
    have N1 : News h₀ L h n₁ := N9
    clear F5 N5 F9 N9 hps
    dsimp only
    have Fu : Full G f' (fun k _ => (G.sg k).blank) := fun k2 hk2 s => by
      refine ⟨?_, fun _ => rfl⟩
      rw [hf1 k2 hk2 s]
      constructor
      · rintro (h | h)
        · exact h.2
        · exact absurd h.1 (by intro e; subst e; exact Nat.lt_irrefl 4 hk2)
      · exact fun h => .inl ⟨hk2, h⟩
    exact endT (n := 0) (tH := (fun k _ => (G.sg k).blank)) B X N1 T hd hu I1 Fu F1 hca hE ret
end
section

theorem mkInv {w : World} {G : Gs} {h₀ h : Heap} {L : Addr} {news : Led} {fz0 : Led} {ov om oh : Obj} (N : News h₀ L h news)
   (hS : Src G.src G.lst news) (hne : @Ne Nat G.src G.lst) (hsgs : ∀ k : Nat, k < 4 → (G.sg k).Ok k) (h0 : ∀ q ∈ fz0, q ∈ news ∧ q.1 ≠ G.src ∧ q.1 ≠ G.lst)
   (m1 : ∀ k : Nat, k < 4 → ((G.sg k).sg, instObj 171 (G.sg k).sd) ∈ fz0) (m2 : ∀ k : Nat, k < 4 → ((G.sg k).sd, dictOf (G.sg k).es (G.sg k).ne) ∈ fz0)
   (m3 : (G.sl, listOf G.sigs.toArray G.nsl) ∈ fz0) (m4 : (G.ds, instObj 234 G.dd) ∈ fz0) (m5 : (G.dd, dictOf G.esd G.ned) ∈ fz0) (ged : getL (Str.ofString "signals") G.esd = some (some (.ref G.sl)))
   (mca : ∃ o, (G.ca, o) ∈ fz0 ∧ o.data = .cell (some (.ref G.src)))
   (efz : G.fz = fz0 ++ [(G.st.st, instObj 108 G.st.sdx), (G.st.sdx, dictOf G.st.es G.st.ne), (G.ot.st, instObj 108 G.ot.sdx), (G.ot.sdx, dictOf G.ot.es G.ot.ne), (G.ot.vd, G.oov), (G.ot.md, G.oom)])
   (gst : StoIs G.st.es G.sl G.st.vd G.st.md) (x1 : (G.st.st, instObj 108 G.st.sdx) ∈ news) (x2 : (G.st.sdx, dictOf G.st.es G.st.ne) ∈ news) (x3 : (G.st.vd, ov) ∈ news) (x4 : (G.st.md, om) ∈ news) (x5 : ov.IsDictOf (PySem.intKind PySem.Challenge.rw_pq0454_01.row.prog w) []) (x6 : om.IsDictOf (PySem.intKind PySem.Challenge.rw_pq0454_01.row.prog w) []) (x7 : (G.st.vd == sysModules) = false) (x8 : (G.st.md == sysModules) = false)
   (got : StoIs G.ot.es G.sl G.ot.vd G.ot.md) (z1 : (G.ot.st, instObj 108 G.ot.sdx) ∈ news) (z2 : (G.ot.sdx, dictOf G.ot.es G.ot.ne) ∈ news) (z3 : (G.ot.vd, G.oov) ∈ news) (z4 : (G.ot.md, G.oom) ∈ news) (z5 : G.oov.IsDictOf (PySem.intKind PySem.Challenge.rw_pq0454_01.row.prog w) []) (z6 : G.oom.IsDictOf (PySem.intKind PySem.Challenge.rw_pq0454_01.row.prog w) []) (z7 : (G.ot.vd == sysModules) = false) (z8 : (G.ot.md == sysModules) = false)
   (hhm : (G.hh, oh) ∈ news) (hhd : oh.IsDictOf (PySem.intKind PySem.Challenge.rw_pq0454_01.row.prog w) []) (hhl : (G.hh == sysModules) = false)
   (o1 : ∀ q ∈ fz0, @LT.lt Nat _ q.1 G.st.sdx) (o2 : @LT.lt Nat _ G.src G.st.sdx) (o3 : @LT.lt Nat _ G.lst G.st.sdx) (y1 : @LT.lt Nat _ G.st.sdx G.st.st) (y2 : @LT.lt Nat _ G.st.st G.st.vd) (y3 : @LT.lt Nat _ G.st.vd G.st.md) (y4 : @LT.lt Nat _ G.st.md G.ot.sdx) (y5 : @LT.lt Nat _ G.ot.sdx G.ot.st) (y6 : @LT.lt Nat _ G.ot.st G.ot.vd) (y7 : @LT.lt Nat _ G.ot.vd G.ot.md) (y8 : @LT.lt Nat _ G.ot.md G.hh) :
    ∃ ρ, Inv w G ρ (fun _ => none) (fun _ => none) 0 0 (fun k _ => (G.sg k).blank) (fun k _ => (G.sg k).blank) news := by
  have hfz : ∀ q ∈ G.fz, q ∈ news ∧ @Ne Nat q.1 G.src ∧ @Ne Nat q.1 G.lst ∧ @Ne Nat q.1 G.st.vd ∧ @Ne Nat q.1 G.st.md ∧ @Ne Nat q.1 G.hh := by
    intro q hq
    rw [efz] at hq
    rcases List.mem_append.mp hq with hq | hq
    · have a := h0 q hq
      have b := o1 q hq
      exact ⟨a.1, a.2.1, a.2.2, by omega, by omega, by omega⟩
    · simp only [List.mem_cons, List.not_mem_nil, or_false] at hq
      rcases hq with rfl | rfl | rfl | rfl | rfl | rfl
      · exact ⟨x1, by dsimp only; omega, by dsimp only; omega, by dsimp only; omega, by dsimp only; omega, by dsimp only; omega⟩
      · exact ⟨x2, by dsimp only; omega, by dsimp only; omega, by dsimp only; omega, by dsimp only; omega, by dsimp only; omega⟩
      · exact ⟨z1, by dsimp only; omega, by dsimp only; omega, by dsimp only; omega, by dsimp only; omega, by dsimp only; omega⟩
      · exact ⟨z2, by dsimp only; omega, by dsimp only; omega, by dsimp only; omega, by dsimp only; omega, by dsimp only; omega⟩
      · exact ⟨z3, by dsimp only; omega, by dsimp only; omega, by dsimp only; omega, by dsimp only; omega, by dsimp only; omega⟩
      · exact ⟨z4, by dsimp only; omega, by dsimp only; omega, by dsimp only; omega, by dsimp only; omega, by dsimp only; omega⟩
  have f0 : ∀ q ∈ fz0, q ∈ G.fz := fun q hq => by rw [efz]; exact List.mem_append_left _ hq
  have fm : ∀ q, q ∈ [(G.st.st, instObj 108 G.st.sdx), (G.st.sdx, dictOf G.st.es G.st.ne), (G.ot.st, instObj 108 G.ot.sdx), (G.ot.sdx, dictOf G.ot.es G.ot.ne), (G.ot.vd, G.oov), (G.ot.md, G.oom)] → q ∈ G.fz := fun q hq => by rw [efz]; exact List.mem_append_right _ hq
  have n1 : ¬ G.lst = G.src := fun e => hne e.symm
  have n2 : ¬ G.st.vd = G.src := fun e => by have : @Eq Nat G.st.vd G.src := e; omega
  have n3 : ¬ G.st.vd = G.lst := fun e => by have : @Eq Nat G.st.vd G.lst := e; omega
  have n4 : ¬ G.st.md = G.src := fun e => by have : @Eq Nat G.st.md G.src := e; omega
  have n5 : ¬ G.st.md = G.lst := fun e => by have : @Eq Nat G.st.md G.lst := e; omega
  have n6 : ¬ G.st.md = G.st.vd := fun e => by have : @Eq Nat G.st.md G.st.vd := e; omega
  have n7 : ¬ G.hh = G.src := fun e => by have : @Eq Nat G.hh G.src := e; omega
  have n8 : ¬ G.hh = G.lst := fun e => by have : @Eq Nat G.hh G.lst := e; omega
  have n9 : ¬ G.hh = G.st.vd := fun e => by have : @Eq Nat G.hh G.st.vd := e; omega
  have n10 : ¬ G.hh = G.st.md := fun e => by have : @Eq Nat G.hh G.st.md := e; omega
  refine ⟨fun a => if a = G.src then some 1 else if a = G.lst then some 2 else if a = G.st.vd then some 3 else if a = G.st.md then some 4 else if a = G.hh then some 5 else if a ∈ G.fz.map (·.1) then some 0 else none, ?_⟩
  refine ⟨⟨hsgs, fun k hk => f0 _ (m1 k hk), fun k hk => f0 _ (m2 k hk), f0 _ m3, f0 _ m4, f0 _ m5, ged, fm _ (.head _), fm _ (.tail _ (.head _)), gst, x7, x8, fm _ (.tail _ (.tail _ (.head _))), fm _ (.tail _ (.tail _ (.tail _ (.head _)))), got, z7, z8, fm _ (.tail _ (.tail _ (.tail _ (.tail _ (.head _))))), z5, fm _ (.tail _ (.tail _ (.tail _ (.tail _ (.tail _ (.head _)))))), z6, ?_, fun q hq => ?_, fun a ha => ?_, if_pos rfl, ?_, ?_, ?_, ?_⟩, hS, fun q hq => (hfz q hq).1, fun a r ha hr => ?_, ?_, ?_, fun _ _ _ => rfl, fun _ _ _ _ _ h => (by cases h), HTab.ofEmpty hhm hhl hhd, fun _ _ _ _ h => (by cases h), fun k hk s => (blank_of (hsgs k hk).w1 (hsgs k hk).w4).2.2, fun k hk s => (blank_of (hsgs k hk).w1 (hsgs k hk).w4).2.2⟩
  · obtain ⟨o, ho, hd⟩ := mca
    exact ⟨o, f0 _ ho, hd⟩
  · obtain ⟨_, a1, a2, a3, a4, a5⟩ := hfz q hq
    show (if q.1 = G.src then some 1 else if q.1 = G.lst then some 2 else if q.1 = G.st.vd then some 3 else if q.1 = G.st.md then some 4 else if q.1 = G.hh then some 5 else if q.1 ∈ G.fz.map (·.1) then some 0 else none) = some 0
    rw [if_neg a1, if_neg a2, if_neg a3, if_neg a4, if_neg a5, if_pos (List.mem_map_of_mem hq)]
  · have ha' : (if a = G.src then some 1 else if a = G.lst then some 2 else if a = G.st.vd then some 3 else if a = G.st.md then some 4 else if a = G.hh then some 5 else if a ∈ G.fz.map (·.1) then some 0 else none) = some 0 := ha
    repeat' split at ha'
    all_goals first | (injection ha' with ha'; exact absurd ha' (by decide)) | cases ha' | skip
    rename_i hm
    obtain ⟨⟨b, o⟩, hq, e⟩ := List.mem_map.mp hm
    have e' : b = a := e
    subst e'
    exact ⟨o, hq⟩
  · exact (if_neg n1).trans (if_pos rfl)
  · exact (if_neg n2).trans ((if_neg n3).trans (if_pos rfl))
  · exact (if_neg n4).trans ((if_neg n5).trans ((if_neg n6).trans (if_pos rfl)))
  · exact (if_neg n7).trans ((if_neg n8).trans ((if_neg n9).trans ((if_neg n10).trans (if_pos rfl))))
  · have ha' : (if a = G.src then some 1 else if a = G.lst then some 2 else if a = G.st.vd then some 3 else if a = G.st.md then some 4 else if a = G.hh then some 5 else if a ∈ G.fz.map (·.1) then some 0 else none) = some r := ha
    obtain ⟨_, _, _, _, _, _, _, _, p1, p2, _⟩ := hS
    by_cases c1 : a = G.src
    · subst c1; exact ⟨_, p1, by exact fun e => absurd (Value.type.inj e) (by decide), by exact fun e => absurd (Value.type.inj e) (by decide)⟩
    · by_cases c2 : a = G.lst
      · subst c2; exact ⟨_, p2, by exact fun e => absurd (Value.type.inj e) (by decide), by exact fun e => absurd (Value.type.inj e) (by decide)⟩
      · by_cases c3 : a = G.st.vd
        · subst c3; exact ⟨_, x3, by rw [dict_cls x5]; decide, by rw [dict_cls x5]; decide⟩
        · by_cases c4 : a = G.st.md
          · subst c4; exact ⟨_, x4, by rw [dict_cls x6]; decide, by rw [dict_cls x6]; decide⟩
          · by_cases c5 : a = G.hh
            · subst c5; exact ⟨_, hhm, by rw [dict_cls hhd]; decide, by rw [dict_cls hhd]; decide⟩
            · rw [if_neg c1, if_neg c2, if_neg c3, if_neg c4, if_neg c5] at ha'
              split at ha'
              · injection ha' with ha'; exact absurd ha'.symm hr
              · cases ha'
  · refine ⟨ov, [], x3, x5, by simp, fun k hk hm => .inr ⟨rfl, ?_, ?_⟩⟩
    · exact (blank_of (hsgs k hk).w1 (hsgs k hk).w4).1
    · exact (blank_of (hsgs k hk).w1 (hsgs k hk).w4).2.1
  · exact ⟨om, [], x4, x6, by simp, fun k hk hm => .inl ⟨rfl, rfl, fun s => rfl⟩⟩

set_option maxRecDepth 100000 in
noncomputable def fourB : { b : List Stmt // lawP.1.1.drop 4 = b } := by
  refine' ⟨?b, ?h⟩
  case h => (dsimp only [lawP, stB, forB, List.drop, List.getElem?_cons_succ, List.getElem?_cons_zero]; exact rfl)
end
section
local macro_rules | `(tactic| walk_at "call ref") => `(tactic| (k_here; refine' hold_out ?_))
local macro_rules | `(tactic| walk_at "execs cons") => `(tactic| (k_here; refine' hold_out ?_))

set_option maxRecDepth 100000 in
set_option maxHeartbeats 8000000 in
theorem fourT {w : World} {p : Program} {loose : List Str} {mean : ExcName → Option Value} {mg mb : Str → Option Value} {qual : Str}
    {dp un : Nat} {gd : Option (List Code)} {a : Addr} {ccd : Value} {ca : Addr} {outer : List Env} {A₀ : Around} {base h₀ : Heap} {L : Addr} {s : Shared} {Q : Flow → Shared → Prop} {E : Value → Shared → Prop} {news : Led}
    (B : Below A₀ base outer h₀) (X : (Mine.hd.heap_39 w.params).In h₀) (N : News h₀ L s.heap news) (T : Top p loose mean mg mb h₀) (hd : dp + 50 < recursionLimit) (hu : un + 600 < cLine)
   {src lst sl ds dd : Addr} {nsl ned : Nat} {esd : List DictEntry} {sg : Nat → Sg} {fz0 : Led}
   (hS : Src src lst news) (hne : @Ne Nat src lst) (hsgs : ∀ k : Nat, k < 4 → (sg k).Ok k) (h0 : ∀ q ∈ fz0, q ∈ news ∧ q.1 ≠ src ∧ q.1 ≠ lst)
   (m1 : ∀ k : Nat, k < 4 → ((sg k).sg, instObj 171 (sg k).sd) ∈ fz0) (m2 : ∀ k : Nat, k < 4 → ((sg k).sd, dictOf (sg k).es (sg k).ne) ∈ fz0)
   (m3 : (sl, listOf ([.ref (sg 0).sg, .ref (sg 1).sg, .ref (sg 2).sg, .ref (sg 3).sg] : List Value).toArray nsl) ∈ fz0) (m4 : (ds, instObj 234 dd) ∈ fz0) (m5 : (dd, dictOf esd ned) ∈ fz0) (ged : getL (Str.ofString "signals") esd = some (some (.ref sl)))
   (mca : ∃ o, (ca, o) ∈ fz0 ∧ o.data = .cell (some (.ref src)))
   {u : Str → Option Value} (F : Fr h₀ L s.heap (fun y => if y = Str.ofString "design" then some (.ref ds) else u y))
   (hE : PassesOwn (model PySem.Challenge.rw_pq0454_01.row.prog w) (ktrTop dp un gd qual lawP.1.2 L a ccd [(Str.ofString "source", ca)] outer) (envX qual lawP.1.2 L a ccd [(Str.ofString "source", ca)]) E)
   (ret : ∀ m' news' h' tk', Fr h₀ L h' m' → News h₀ L h' news' → Q (.ret (.bool true)) { s with heap := h', toks := tk' }) :
   wpAny (model PySem.Challenge.rw_pq0454_01.row.prog w) (ktrTop dp un gd qual lawP.1.2 L a ccd [(Str.ofString "source", ca)] outer) (execs fourB.1 (envX qual lawP.1.2 L a ccd [(Str.ofString "source", ca)])) Q E s := by
  dsimp only [fourB, lawP] at F hE ⊢
  revert X
  k_fill
  intro X
  have hds := (h0 _ m4).1
  have hdd := (h0 _ m5).1
  refine wpAny_execs_cons ?_
  k_steps
  refine hold_in ?_
  rename Fr _ _ _ _ => F5
  rename News _ _ _ _ => N5
  refine con_use con_Store B F5 X N5 T rfl trivial (by ktr_room) (by ktr_units) ?_
  clear F5 N5
  rintro r' n1 h1 tk1 F1 N1 ⟨st, sdx, es, ne, vd, ov, md, om, rfl, gst, x1, x2, x3, x4, x5, x6, x7, x8, sub1, lt1, y1, y2, y3⟩
  have hds := sub1 _ hds
  have hdd := sub1 _ hdd
  k_steps
  refine hold_in ?_
  refine wpAny_execs_cons ?_
  k_steps
  refine hold_in ?_
  rename Fr _ _ _ _ => F5
  rename News _ _ _ _ => N5
  refine con_use con_Store B F5 X N5 T rfl trivial (by ktr_room) (by ktr_units) ?_
  clear F5 N5
  rintro r' n2 h2 tk2 F2 N2 ⟨ot, ox, eo, no, vo, oov, mo, oom, rfl, got, z1, z2, z3, z4, z5, z6, z7, z8, sub2, lt2, w1, w2, w3⟩
  k_steps
  refine hold_in ?_
  refine wpAny_execs_cons ?_
  k_steps
  refine hold_in ?_
  rename Fr _ _ _ _ => F9
  rename News _ _ _ _ => N9
  rename Addr => hh
  rename (∀ p ∈ n2, p.1 < _) => lt3
  rename ((_ == sysModules) = false) => lo3
  rename Obj.IsDictOf (PySem.intKind _ _) _ [] => hd3
  obtain ⟨_, _, _, _, _, _, _, _, p1, p2, _⟩ := id hS
  obtain ⟨ρ, I⟩ := mkInv (w := w) (fz0 := fz0) (G := { src := src, lst := lst, sl := sl, ds := ds, dd := dd, hh := hh, ca := ca, nsl := nsl, ned := ned, esd := esd, sg := sg, st := ⟨st, sdx, vd, md, es, ne⟩, ot := ⟨ot, ox, vo, mo, eo, no⟩, oov := oov, oom := oom, fz := fz0 ++ [(st, instObj 108 sdx), (sdx, dictOf es ne), (ot, instObj 108 ox), (ox, dictOf eo no), (vo, oov), (mo, oom)] })
    N9 (hS.sub fun q hq => .tail _ (sub2 q (sub1 q hq))) hne hsgs (fun q hq => ⟨.tail _ (sub2 q (sub1 q (h0 q hq).1)), (h0 q hq).2⟩) m1 m2 m3 m4 m5 ged mca rfl gst (.tail _ (sub2 _ x1)) (.tail _ (sub2 _ x2)) (.tail _ (sub2 _ x3)) (.tail _ (sub2 _ x4)) x5 x6 x7 x8 got (.tail _ z1) (.tail _ z2) (.tail _ z3) (.tail _ z4) z5 z6 z7 z8 (.head _) hd3 lo3
    (fun q hq => lt1 _ (h0 q hq).1) (lt1 _ p1) (lt1 _ p2) y1 y2 y3 (lt2 _ x4) w1 w2 w3 (lt3 _ z4)
  obtain ⟨u2, F10⟩ : ∃ u2 : Str → Option Value, Fr h₀ L _ (fun y => if y = Str.ofString "store" then some (.ref st) else if y = Str.ofString "other" then some (.ref ot) else if y = Str.ofString "held" then some (.ref hh) else if y = Str.ofString "design" then some (.ref ds) else u2 y) := ⟨_, fr_has0 (ps := [(Str.ofString "store", .ref st), (Str.ofString "other", .ref ot), (Str.ofString "held", .ref hh), (Str.ofString "design", .ref ds)]) F9 (has_cons (by exact rfl) (has_cons (by exact rfl) (has_cons (by exact rfl) (has_cons (by exact rfl) (has_nil)))))⟩
  dsimp only
  exact sevT B X N9 T hd hu I F10 rfl hE ret
end
section

theorem addsig_use {w : World} {p : Program} {loose : List Str} {mean : ExcName → Option Value} {mg mb : Str → Option Value} {ds dd sl bp : Addr} {esd : List DictEntry} {ned nn : Nat} {its : Array Value} {ob : Obj} {kvb : List (Str × Value)} {path kd : Str} {wide msb lsb at9 : Int} {tp tk tw tm tl9 ta : Tok}
    {dp un : Nat} {gd : Option (List Code)} {cn : Str} {cs : Scope} {a : Addr} {ccd : Value} {cl : List (Str × Addr)} {outer : List Env} {A₀ : Around} {base h₀ : Heap} {L : Addr} {m : Str → Option Value} {news : Led} {s : Shared} {Q E : Value → Shared → Prop}
    (hd1 : getL (Str.ofString "signals") esd = some (some (.ref sl))) (hd2 : getL (Str.ofString "by_path") esd = some (some (.ref bp))) (hob : ob.IsDictOf (PySem.strKind PySem.Challenge.rw_pq0454_01.row.prog w) kvb) (lob : (bp == sysModules) = false) (hsz : its.size ≤ 64) (hkb : kvb.length ≤ 64) (hl1 : @LT.lt Nat _ dd ds) (hl2 : @LT.lt Nat _ ds sl) (hl3 : @LT.lt Nat _ sl bp)
    (p1 : (ds, instObj 234 dd) ∈ news) (p2 : (dd, dictOf esd ned) ∈ news) (p3 : (sl, listOf its nn) ∈ news) (p4 : (bp, ob) ∈ news)
    (B : Below A₀ base outer h₀) (F : Fr h₀ L s.heap m) (X : (Mine.hd.heap_39 w.params).In h₀) (N : News h₀ L s.heap news) (T : Top p loose mean mg mb h₀) (hk : cs.kind = .function) (hd : dp + 5 < recursionLimit) (hu : un + 100 < cLine)
    (ret : ∀ sg sd es2 ne2 ob' kvb' news' h' tk', Fr h₀ L h' m → News h₀ L h' news' → (sg, instObj 171 sd) ∈ news' → (sd, dictOf es2 ne2) ∈ news' → (sl, listOf (its.push (.ref sg)) (nn + 1)) ∈ news' → (bp, ob') ∈ news' → (∀ q ∈ news, q.1 ≠ sl → q.1 ≠ bp → q ∈ news') → (∀ q ∈ news, q.1 ≠ sd) →
      SigIs es2 (its.size : Int) kd wide → getL (Str.ofString "first") es2 = some (some .none) → getL (Str.ofString "last") es2 = some (some .none) → es2.length ≤ 20 → ob'.IsDictOf (PySem.strKind PySem.Challenge.rw_pq0454_01.row.prog w) kvb' → kvb'.length ≤ kvb.length + 1 → @LT.lt Nat _ bp sd → Q (.ref sg) { s with heap := h', toks := tk' }) :
    wpAny (model PySem.Challenge.rw_pq0454_01.row.prog w) (ktrTop dp un gd cn cs L a ccd cl outer) (call (.ref 196) [.ref ds, .str path tp, .str kd tk, .int wide tw, .bool false, .int msb tm, .int lsb tl9, .int at9 ta]) Q E s := by
  refine conN_addsig (ned := ned) (nn := nn) hd1 hd2 hob lob hsz hkb hl1 hl2 hl3 _ _ _ _ _ _ _ _ _ _ _ _ _ _ _ _ _ B F X (fun q hq => ?_) T hk hd hu ?_
  · simp only [List.mem_cons, List.not_mem_nil, or_false] at hq
    rcases hq with rfl | rfl | rfl | rfl
    · exact N _ p1
    · exact N _ p2
    · exact N _ p3
    · exact N _ p4
  · rintro r P' h' tk' F' N' st fr ⟨sg, sd, es2, ne2, ob', kvb', key, rfl, rfl, hsi, hf, hl, h20, hob', hkb', rfl, hlt, hall⟩
    have hbs := hall (bp, ob) (.tail _ (.tail _ (.tail _ (.head _))))
    have hss := hall (sl, listOf its nn) (.tail _ (.tail _ (.head _)))
    have hds := hall (ds, instObj 234 dd) (.head _)
    have hdd := hall (dd, dictOf esd ned) (.tail _ (.head _))
    dsimp only at hbs hss hds hdd
    have hfr : s.heap.get? sd = none := fr _ (.tail _ (.head _)) (by
      simp only [List.map_cons, List.map_nil, List.mem_cons, List.not_mem_nil, or_false, not_or]
      exact ⟨Nat.ne_of_gt hds, Nat.ne_of_gt hdd, Nat.ne_of_gt hss, Nat.ne_of_gt hbs⟩)
    refine ret sg sd es2 ne2 ob' kvb' _ h' tk' F' (news_stay N st N') (List.mem_append_left _ (.head _)) (List.mem_append_left _ (.tail _ (.head _))) (List.mem_append_left _ (.tail _ (.tail _ (.tail _ (.tail _ (.head _)))))) (List.mem_append_left _ (.tail _ (.tail _ (.tail _ (.tail _ (.tail _ (.head _))))))) (fun q hq a1 a2 => ?_) (fun q hq e => ?_) hsi hf hl h20 hob' hkb' hbs
    · by_cases c1 : q.1 = ds
      · obtain ⟨b, o⟩ := q
        have e : b = ds := c1
        subst e
        rw [led_fun N hq p1]
        exact List.mem_append_left _ (.tail _ (.tail _ (.head _)))
      · by_cases c2 : q.1 = dd
        · obtain ⟨b, o⟩ := q
          have e : b = dd := c2
          subst e
          rw [led_fun N hq p2]
          exact List.mem_append_left _ (.tail _ (.tail _ (.tail _ (.head _))))
        · refine List.mem_append_right _ (List.mem_filter.mpr ⟨hq, decide_eq_true ?_⟩)
          simp only [List.map_cons, List.map_nil, List.mem_cons, List.not_mem_nil, or_false, not_or]
          exact ⟨c1, c2, a1, a2⟩
    · have := (N q hq).1
      rw [e, hfr] at this
      cases this
theorem cell_ne {h₀ h : Heap} {L a ca : Addr} {news : Led} {its : Array Value} {n : Nat} {co : Obj} {v : Option Value} (N : News h₀ L h news) (h1 : (a, listOf its n) ∈ news) (h2 : (ca, co) ∈ news) (hcd : co.data = .cell v) : ca ≠ a := fun e => by
  subst e
  rw [led_fun N h2 h1] at hcd
  cases hcd
theorem cell_ne_dict {h₀ h : Heap} {L a ca : Addr} {news : Led} {prog : Program} {w : World} {K : Type} [DecidableEq K] {knd : KeyKind prog w K} {kvs : List (K × Value)} {ob co : Obj} {v : Option Value} (N : News h₀ L h news) (h1 : (a, ob) ∈ news) (hd : ob.IsDictOf knd kvs) (h2 : (ca, co) ∈ news) (hcd : co.data = .cell v) : ca ≠ a := fun e => by
  subst e
  obtain ⟨es, ep, _, hdat, _⟩ := hd
  rw [led_fun N h2 h1, hdat] at hcd
  cases hcd
theorem pair0 (a b : Value) : (#[a, b] : Array Value)[(0 : Int).toNat]? = some a := rfl
theorem pair1 (a b : Value) : (#[a, b] : Array Value)[(1 : Int).toNat]? = some b := rfl
def netK (k : Nat) : Bool := k == 0 || k == 3
theorem kinds_at {k : Nat} (hk : k < 4) (t1 t2 t3 t4 : Tok) : ∃ t, (#[Value.str (Str.ofString "wire") t1, .str (Str.ofString "reg") t2, .str (Str.ofString "reg") t3, .str (Str.ofString "wire") t4] : Array Value)[((k : Nat) : Int).toNat]? = some (.str (kdS (netK k)) t) := by
  have : k = 0 ∨ k = 1 ∨ k = 2 ∨ k = 3 := by omega
  rcases this with rfl | rfl | rfl | rfl
  · exact ⟨t1, rfl⟩
  · exact ⟨t2, rfl⟩
  · exact ⟨t3, rfl⟩
  · exact ⟨t4, rfl⟩

set_option maxRecDepth 100000 in
noncomputable def s3B : { b : List Stmt // stB lawP.1.1 3 = b } := by
  refine' ⟨?b, ?h⟩
  case h => (dsimp only [lawP, stB, forB, List.drop, List.getElem?_cons_succ, List.getElem?_cons_zero]; exact rfl)
end
section

theorem str_eq {a b : Str} : (a == b) = decide (a = b) := by
  by_cases h : a = b
  · subst h; simp
  · rw [decide_eq_false h]; exact beq_eq_false_iff_ne.mpr h
theorem fnd_put {nm name : Str} {hsh : Int} {t : Tok} {v : Value} : ∀ es : List DictEntry, ((putL name hsh (.str name t) v es).find? (·.key.isStr nm)).map (·.val) = if nm = name then some v else (es.find? (·.key.isStr nm)).map (·.val)
  | [] => by
    show (([⟨hsh, .str name t, v⟩] : List DictEntry).find? (·.key.isStr nm)).map (·.val) = _
    rw [List.find?_cons]
    show (match (name == nm) with | true => some (⟨hsh, .str name t, v⟩ : DictEntry) | false => (none : Option DictEntry)).map (fun e : DictEntry => e.val) = _
    by_cases h : nm = name
    · subst h
      rw [if_pos rfl, show (nm == nm) = true from by simp]; rfl
    · rw [if_neg h, show (name == nm) = false from beq_eq_false_iff_ne.mpr fun e => h e.symm]; rfl
  | e :: r => by
    have ih := fnd_put (nm := nm) (name := name) (hsh := hsh) (t := t) (v := v) r
    unfold putL
    cases h : e.key.isStr name with
    | true =>
      simp only [if_true, List.find?_cons]
      by_cases hn : nm = name
      · subst hn
        rw [h, if_pos rfl]; rfl
      · rw [if_neg hn]
        have h2 : e.key.isStr nm = false := by
          cases hk : e.key.isStr nm with
          | false => rfl
          | true =>
            exfalso
            cases hkey : e.key <;> rw [hkey] at h hk <;> first | (cases h; done) | skip
            rename_i s t
            have a : (s == name) = true := h
            have b : (s == nm) = true := hk
            exact hn ((eq_of_beq b).symm.trans (eq_of_beq a))
        rw [h2]
    | false =>
      simp only [Bool.false_eq_true, if_false, List.find?_cons]
      cases hk : e.key.isStr nm with
      | true =>
        by_cases hn : nm = name
        · subst hn; rw [hk] at h; cases h
        · rw [if_neg hn]
      | false => exact ih
theorem ref_put {name : Str} {hsh : Int} {t : Tok} {v : Value} : ∀ es : List DictEntry, (putL name hsh (.str name t) v es).any (·.refKey) = es.any (·.refKey)
  | [] => rfl
  | e :: r => by
    unfold putL
    split
    · rfl
    · rw [List.any_cons, List.any_cons, ref_put r]
theorem getL_val (nm : Str) (es : List DictEntry) : getL nm es = match (es.find? (·.key.isStr nm)).map (·.val) with | some v => some (some v) | none => if es.any (·.refKey) then none else some none := by
  unfold getL
  cases es.find? (·.key.isStr nm) <;> rfl
theorem getL_put {nm name : Str} {hsh : Int} {t : Tok} {v : Value} (es : List DictEntry) : getL nm (putL name hsh (.str name t) v es) = if nm = name then some (some v) else getL nm es := by
  rw [getL_val, getL_val, fnd_put, ref_put]
  by_cases h : nm = name
  · rw [if_pos h, if_pos h]
  · rw [if_neg h, if_neg h]
theorem put_len {name : Str} {hsh : Int} {k v : Value} : ∀ es : List DictEntry, (putL name hsh k v es).length ≤ es.length + 1
  | [] => Nat.le_refl _
  | e :: r => by
    have := put_len (name := name) (hsh := hsh) (k := k) (v := v) r
    unfold putL
    split
    · simp
    · simp only [List.length_cons]; omega
theorem set_attr_led {prog : Program} {w : World} {A : Around} {E : Value → Shared → Prop} {s : Shared} {K : Frag} {x C dx L : Addr} {h₀ : Heap} {m : Str → Option Value} {news : Led} {es : List DictEntry} {n : Nat} {name : Str} {v : Value} {Q : Unit → Shared → Prop}
    (F : Fr h₀ L s.heap m) (X₀ : K.In h₀) (N : News h₀ L s.heap news) (hx : (x, instObj C dx) ∈ news) (hdx : (dx, dictOf es n) ∈ news)
    (hs : findIn K (.ref C) "__setattr__" = some (some (.builtin "object.__setattr__"))) (hp : plainOver K C = true) (ht : takerIn K C name = some none) (hh : hasDictIn K C = true) (hl : (getL name es).isSome = true) (hz : es.length ≤ 100)
    (h : ∀ h' es' n', Fr h₀ L h' m → News h₀ L h' ((dx, dictOf es' n') :: drp dx news) → (∀ nm, getL nm es' = if nm = name then some (some v) else getL nm es) → es'.length ≤ es.length + 1 → Q () { s with heap := h', toks := s.toks + 2 }) :
    wpAny (model prog w) A (setAttr (.ref x) name v) Q E s := by
  have N2 : News h₀ L s.heap ((dx, dictOf es n) :: drp dx news) := fun q hq => by
    rcases List.mem_cons.mp hq with rfl | hq
    · exact N _ hdx
    · exact N _ (mem_drp.mp hq).1
  exact set_dict F X₀ N2 (InstAt.of_news N hx hdx) rfl hs hp ht hh hl rfl (Upd.head fun p hp => (mem_drp.mp hp).2) (Nat.le_trans (put_len _) (by omega)) fun h' F' N' => h h' _ _ F' N' (fun nm => getL_put es) (put_len _)
end
section
local macro_rules | `(tactic| walk_at "subscriptTail") => `(tactic| (k_here; (with_reducible show wpAny _ _ (subscriptTail _ _ (Value.ref _) (Value.int _ _)) _ _ _); k_dflt (refine' item_led ?N ?hm ?h0 ?h1 ?hx ?_; (case N => k_asm); (case hm => k_mem); (case h0 => omega); (case h1 => omega); (case hx => first | assumption | exact pair0 _ _ | exact pair1 _ _); k_whole)))
local macro_rules | `(tactic| walk_at "call ref") => `(tactic| (k_here; refine' hold_out ?_))
local macro_rules | `(tactic| walk_at "setAttr ref") => `(tactic| (k_here; refine' hold_out ?_))

set_option maxRecDepth 100000 in
set_option maxHeartbeats 8000000 in
theorem s3T {w : World} {p : Program} {loose : List Str} {mean : ExcName → Option Value} {mg mb : Str → Option Value} {qual : Str}
    {dp un : Nat} {gd : Option (List Code)} {a : Addr} {ccd : Value} {ca : Addr} {outer : List Env} {A₀ : Around} {base h₀ : Heap} {L : Addr} {s : Shared} {Q : Flow → Shared → Prop} {E : Value → Shared → Prop} {news : Led}
    (B : Below A₀ base outer h₀) (X : (Mine.hd.heap_39 w.params).In h₀) (N : News h₀ L s.heap news) (T : Top p loose mean mg mb h₀) (hd : dp + 50 < recursionLimit) (hu : un + 600 < cLine)
   {src lst ds dd sl bp ka : Addr} {esd : List DictEntry} {ned nn nk k : Nat} {its : Array Value} {ob co : Obj} {kvb : List (Str × Value)} {t1 t2 t3 t4 : Tok}
   (hk : k < 4) (hS : Src src lst news) (mds : (ds, instObj 234 dd) ∈ news) (mdd : (dd, dictOf esd ned) ∈ news) (msl : (sl, listOf its nn) ∈ news) (mbp : (bp, ob) ∈ news) (hob : ob.IsDictOf (PySem.strKind PySem.Challenge.rw_pq0454_01.row.prog w) kvb) (lob : (bp == sysModules) = false) (hsz : its.size = k) (hkb : kvb.length ≤ k)
   (mka : (ka, listOf #[.str (Str.ofString "wire") t1, .str (Str.ofString "reg") t2, .str (Str.ofString "reg") t3, .str (Str.ofString "wire") t4] nk) ∈ news) (mca : (ca, co) ∈ news) (hcd : co.data = .cell (some (.ref src)))
   (he1 : getL (Str.ofString "signals") esd = some (some (.ref sl))) (he2 : getL (Str.ofString "by_path") esd = some (some (.ref bp))) (he3 : getL (Str.ofString "add_signal") esd = some none)
   (hne : @Ne Nat src lst) (l1 : @LT.lt Nat _ src dd) (l2 : @LT.lt Nat _ lst dd) (l3 : @LT.lt Nat _ dd ds) (l4 : @LT.lt Nat _ ds sl) (l5 : @LT.lt Nat _ sl bp) (l6 : @LT.lt Nat _ bp ka)
   {u : Str → Option Value} {ta : Tok} (F : Fr h₀ L s.heap (fun y => if y = Str.ofString "at" then some (.int (k : Int) ta) else if y = Str.ofString "design" then some (.ref ds) else if y = Str.ofString "kinds" then some (.ref ka) else u y))
   (hE : PassesOwn (model PySem.Challenge.rw_pq0454_01.row.prog w) (ktrTop dp un gd qual lawP.1.2 L a ccd [(Str.ofString "source", ca)] outer) (envX qual lawP.1.2 L a ccd [(Str.ofString "source", ca)]) E)
   (ret : ∀ (S : Sg) (nn' : Nat) (ob' : Obj) (kvb' : List (Str × Value)) m' news' h' tk', Fr h₀ L h' m' → News h₀ L h' news' → Src src lst news' → S.Ok k → (S.sg, instObj 171 S.sd) ∈ news' → (S.sd, dictOf S.es S.ne) ∈ news' → (sl, listOf (its.push (.ref S.sg)) nn') ∈ news' → (bp, ob') ∈ news' → ob'.IsDictOf (PySem.strKind PySem.Challenge.rw_pq0454_01.row.prog w) kvb' → kvb'.length ≤ k + 1 →
      (∀ q ∈ news, q.1 ≠ src → q.1 ≠ lst → q.1 ≠ sl → q.1 ≠ bp → q ∈ news') → @LT.lt Nat _ bp S.sd → (∀ q ∈ news, q.1 ≠ src → q.1 ≠ lst → q.1 ≠ S.sd) → Has m' [(Str.ofString "design", .ref ds), (Str.ofString "kinds", .ref ka)] → Q .next { s with heap := h', toks := tk' }) :
   wpAny (model PySem.Challenge.rw_pq0454_01.row.prog w) (ktrTop dp un gd qual lawP.1.2 L a ccd [(Str.ofString "source", ca)] outer) (execs s3B.1 (envX qual lawP.1.2 L a ccd [(Str.ofString "source", ca)])) Q E s := by
  dsimp only [s3B, lawP] at F hE ⊢
  revert X
  k_fill
  intro X
  obtain ⟨tkk, hkx⟩ := kinds_at hk t1 t2 t3 t4
  obtain ⟨_, _, _, _, _, _, _, _, q1, q2, _⟩ := id hS
  have nca1 := cell_ne N q1 mca hcd
  have nca2 := cell_ne N q2 mca hcd
  have nca3 := cell_ne N msl mca hcd
  have nca4 := cell_ne_dict N mbp hob mca hcd
  k_steps
  refine hold_in ?_
  rename Fr _ _ _ _ => F5
  rename News _ _ _ _ => N5
  refine take_src hS hne B F5 X N5 T rfl (by ktr_room) (by ktr_units) (by decide) (by decide) ?_
  clear F5 N5
  intro wd0 u3 n1 h1 tk1 F1 N1 S1 hk1 hw0 hw4
  have mds1 := hk1 _ mds (show @Ne Nat ds src by omega) (show @Ne Nat ds lst by omega)
  have mdd1 := hk1 _ mdd (show @Ne Nat dd src by omega) (show @Ne Nat dd lst by omega)
  have msl1 := hk1 _ msl (show @Ne Nat sl src by omega) (show @Ne Nat sl lst by omega)
  have mbp1 := hk1 _ mbp (show @Ne Nat bp src by omega) (show @Ne Nat bp lst by omega)
  have mka1 := hk1 _ mka (show @Ne Nat ka src by omega) (show @Ne Nat ka lst by omega)
  have mca1 := hk1 _ mca nca1 nca2
  k_steps
  refine hold_in ?_
  rename Fr _ _ _ _ => F5
  rename News _ _ _ _ => N5
  refine addsig_use he1 he2 hob lob (by omega) (by omega) l3 l4 l5 mds1 mdd1 msl1 mbp1 B F5 X N5 T rfl (by ktr_room) (by ktr_units) ?_
  clear F5 N5
  intro sg sd es2 ne2 ob' kvb' n2 h2 tk2 F2 N2 msg msd msl2 mbp2 hk2 hfr hsi hfst hlst h20 hob' hkb' hlt
  rw [hsz] at hsi
  have S2 : Src src lst n2 := by
    obtain ⟨cur, seed, t1, t2, n1, vs, ns, n2, m1, m2, r⟩ := S1
    exact ⟨cur, seed, t1, t2, n1, vs, ns, n2, hk2 _ m1 (show @Ne Nat src sl by omega) (show @Ne Nat src bp by omega), hk2 _ m2 (show @Ne Nat lst sl by omega) (show @Ne Nat lst bp by omega), r⟩
  have mca2 := hk2 _ mca1 nca3 nca4
  by_cases hk1' : 1 < k
  · obtain ⟨_, _, _, _, _, _, _, _, q1, q2, _⟩ := id S2
    have nca1 := cell_ne N2 q1 mca2 hcd
    have nca2 := cell_ne N2 q2 mca2 hcd
    have nsg1 : sg ≠ src := fun e => by subst e; exact absurd (led_fun N2 msg q1) (fun e => absurd (congrArg Obj.cls e) (by exact fun e => by cases e))
    have nsg2 : sg ≠ lst := fun e => by subst e; exact absurd (led_fun N2 msg q2) (fun e => absurd (congrArg Obj.cls e) (by exact fun e => by cases e))
    k_steps
    refine hold_in ?_
    rename Fr _ _ _ _ => F5
    rename News _ _ _ _ => N5
    refine take_src S2 hne B F5 X N5 T rfl (by ktr_room) (by ktr_units) (by decide) (by decide) ?_
    clear F5 N5
    intro many0 u4 n3 h3 tk3 F3 N3 S3 hk3 hm0 hm3
    have mca3 := hk3 _ mca2 nca1 nca2
    have lsd : @LT.lt Nat _ bp sd := hlt
    have msg3 := hk3 _ msg nsg1 nsg2
    have msd3 := hk3 _ msd (show @Ne Nat sd src by omega) (show @Ne Nat sd lst by omega)
    k_steps
    refine hold_in ?_
    rename (_ < _ ∧ _ < _ ∧ AllLt _ n3) => hal3
    rename (_ < _ ∧ AllLt _ n3) => hal2
    rename (∀ p ∈ n3, p.1 < _) => hal1
    rename Fr _ _ _ _ => F5
    rename News _ _ _ _ => N5
    obtain ⟨_, _, _, _, _, _, _, _, q1, q2, _⟩ := id S3
    refine take_src (S3.sub fun q hq => .tail _ (.tail _ (.tail _ hq))) hne B F5 X N5 T rfl (by ktr_room) (by ktr_units) (by decide) (by decide) ?_
    intro idx u5 n4 h4 tk4 F4 N4 S4 hk4 hi0 hi2
    have e1 := hk4 _ (.head _) (Nat.ne_of_gt (kst_ltOf hal3.2.2 _ q1)) (Nat.ne_of_gt (kst_ltOf hal3.2.2 _ q2))
    have e2 := hk4 _ (.tail _ (.head _)) (Nat.ne_of_gt (kst_ltOf hal2.2 _ q1)) (Nat.ne_of_gt (kst_ltOf hal2.2 _ q2))
    have e3 := hk4 _ (.tail _ (.tail _ (.head _))) (Nat.ne_of_gt (hal1 _ q1)) (Nat.ne_of_gt (hal1 _ q2))
    have msg4 := hk4 _ (.tail _ (.tail _ (.tail _ msg3))) nsg1 nsg2
    have msd4 := hk4 _ (.tail _ (.tail _ (.tail _ msd3))) (show @Ne Nat sd src by omega) (show @Ne Nat sd lst by omega)
    have nsgd : sg ≠ sd := fun e => by subst e; exact absurd (led_fun N4 msg4 msd4) (fun e => absurd (congrArg Obj.cls e) (by exact fun e => by cases e))
    clear N5 F5
    obtain rfl | rfl : idx = 0 ∨ idx = 1 := by omega
    · k_steps
      refine hold_in ?_
      rename Fr _ _ _ _ => F5
      rename News _ _ _ _ => N5
      refine' set_attr_led ?F ?X ?N ?hx ?hdx ?hs ?hp ?ht ?hh ?hl ?hz ?_
      case F => exact F5
      case X => exact X
      case N => exact N5
      case hx => exact msg4
      case hdx => exact msd4
      case hs => k_is
      case hp => k_is
      case ht => k_is
      case hh => k_is
      case hl => (rw [hfst]; rfl)
      case hz => omega
      clear F5 N5
      intro h5 es5 ne5 F5 N5 hg5 hz5
      k_steps
      refine hold_in ?_
      rename Fr _ _ _ _ => F5
      rename News _ _ _ _ => N5
      refine' set_attr_led ?F ?X ?N ?hx ?hdx ?hs ?hp ?ht ?hh ?hl ?hz ?_
      case F => exact F5
      case X => exact X
      case N => exact N5
      case hx => exact (.tail _ (mem_drp.mpr ⟨msg4, nsgd⟩))
      case hdx => exact (.head _)
      case hs => k_is
      case hp => k_is
      case ht => k_is
      case hh => k_is
      case hl => (rw [hg5, if_neg (by decide), hlst]; rfl)
      case hz => omega
      clear F5 N5
      intro h6 es6 ne6 F6 N6 hg6 hz6
      k_steps
      have hgo : ∀ nm, nm ≠ Str.ofString "first" → nm ≠ Str.ofString "last" → getL nm es6 = getL nm es2 := fun nm a b => by rw [hg6, if_neg b, hg5, if_neg a]
      have hdrp : ∀ q ∈ n4, q.1 ≠ sd → q ∈ (sd, dictOf es6 ne6) :: drp sd ((sd, dictOf es5 ne5) :: drp sd n4) := fun q hq hn => .tail _ (mem_drp.mpr ⟨.tail _ (mem_drp.mpr ⟨hq, hn⟩), hn⟩)
      have hk14 : ∀ q ∈ n2, q.1 ≠ src → q.1 ≠ lst → q ∈ n4 := fun q hq a b => hk4 q (.tail _ (.tail _ (.tail _ (hk3 q hq a b)))) a b
      refine ret { sg := sg, sd := sd, es := es6, ne := ne6, wd := 1 + wd0, fi := 0, la := 1 + many0 - 1, net := netK k, mem := true } (nn + 1) ob' kvb' _ _ _ _ (by assumption) N6 ?_ ?_ (hdrp _ msg4 nsgd) (.head _) (hdrp _ (hk14 _ msl2 (show @Ne Nat sl src by omega) (show @Ne Nat sl lst by omega)) (show @Ne Nat sl sd by omega)) (hdrp _ (hk14 _ mbp2 (show @Ne Nat bp src by omega) (show @Ne Nat bp lst by omega)) (show @Ne Nat bp sd by omega)) hob' (by omega) (fun q hq a b c d => hdrp q (hk14 q (hk2 q (hk1 q hq a b) c d) a b) (hfr q (hk1 q hq a b))) hlt (fun q hq a b => hfr q (hk1 q hq a b)) (has_cons (by exact rfl) (has_cons (by exact rfl) (has_nil)))
      · obtain ⟨cur, seed, t1, t2, n1, vs, ns, n2, m1, m2, r⟩ := S4
        exact ⟨cur, seed, t1, t2, n1, vs, ns, n2, hdrp _ m1 (show @Ne Nat src sd by omega), hdrp _ m2 (show @Ne Nat lst sd by omega), r⟩
      · obtain ⟨⟨tk0, hkey⟩, ⟨tkd, hkd⟩, ⟨twd, hwd⟩, hnm, him, hnw⟩ := hsi
        refine ⟨⟨⟨tk0, (hgo _ (by decide) (by decide)).trans hkey⟩, ⟨tkd, (hgo _ (by decide) (by decide)).trans hkd⟩, ⟨twd, (hgo _ (by decide) (by decide)).trans hwd⟩, (hgo _ (by decide) (by decide)).trans hnm, (hgo _ (by decide) (by decide)).trans him, (hgo _ (by decide) (by decide)).trans hnw⟩, by dsimp only; omega, by dsimp only; omega, (fun h => by cases h), fun _ => ⟨_, by dsimp only; rw [hg6, if_neg (by decide), hg5, if_pos rfl]⟩, fun _ => ⟨_, by dsimp only; rw [hg6, if_pos rfl]⟩, by dsimp only; omega, by dsimp only; omega, by dsimp only; omega, by dsimp only; omega, by rw [Sg.words_m rfl]; dsimp only; split <;> omega⟩
    · k_steps
      refine hold_in ?_
      rename Fr _ _ _ _ => F5
      rename News _ _ _ _ => N5
      refine' set_attr_led ?F ?X ?N ?hx ?hdx ?hs ?hp ?ht ?hh ?hl ?hz ?_
      case F => exact F5
      case X => exact X
      case N => exact N5
      case hx => exact msg4
      case hdx => exact msd4
      case hs => k_is
      case hp => k_is
      case ht => k_is
      case hh => k_is
      case hl => (rw [hfst]; rfl)
      case hz => omega
      clear F5 N5
      intro h5 es5 ne5 F5 N5 hg5 hz5
      k_steps
      refine hold_in ?_
      rename Fr _ _ _ _ => F5
      rename News _ _ _ _ => N5
      refine' set_attr_led ?F ?X ?N ?hx ?hdx ?hs ?hp ?ht ?hh ?hl ?hz ?_
      case F => exact F5
      case X => exact X
      case N => exact N5
      case hx => exact (.tail _ (mem_drp.mpr ⟨msg4, nsgd⟩))
      case hdx => exact (.head _)
      case hs => k_is
      case hp => k_is
      case ht => k_is
      case hh => k_is
      case hl => (rw [hg5, if_neg (by decide), hlst]; rfl)
      case hz => omega
      clear F5 N5
      intro h6 es6 ne6 F6 N6 hg6 hz6
      k_steps
      have hgo : ∀ nm, nm ≠ Str.ofString "first" → nm ≠ Str.ofString "last" → getL nm es6 = getL nm es2 := fun nm a b => by rw [hg6, if_neg b, hg5, if_neg a]
      have hdrp : ∀ q ∈ n4, q.1 ≠ sd → q ∈ (sd, dictOf es6 ne6) :: drp sd ((sd, dictOf es5 ne5) :: drp sd n4) := fun q hq hn => .tail _ (mem_drp.mpr ⟨.tail _ (mem_drp.mpr ⟨hq, hn⟩), hn⟩)
      have hk14 : ∀ q ∈ n2, q.1 ≠ src → q.1 ≠ lst → q ∈ n4 := fun q hq a b => hk4 q (.tail _ (.tail _ (.tail _ (hk3 q hq a b)))) a b
      refine ret { sg := sg, sd := sd, es := es6, ne := ne6, wd := 1 + wd0, fi := 1 + many0 + 1, la := 2, net := netK k, mem := true } (nn + 1) ob' kvb' _ _ _ _ (by assumption) N6 ?_ ?_ (hdrp _ msg4 nsgd) (.head _) (hdrp _ (hk14 _ msl2 (show @Ne Nat sl src by omega) (show @Ne Nat sl lst by omega)) (show @Ne Nat sl sd by omega)) (hdrp _ (hk14 _ mbp2 (show @Ne Nat bp src by omega) (show @Ne Nat bp lst by omega)) (show @Ne Nat bp sd by omega)) hob' (by omega) (fun q hq a b c d => hdrp q (hk14 q (hk2 q (hk1 q hq a b) c d) a b) (hfr q (hk1 q hq a b))) hlt (fun q hq a b => hfr q (hk1 q hq a b)) (has_cons (by exact rfl) (has_cons (by exact rfl) (has_nil)))
      · obtain ⟨cur, seed, t1, t2, n1, vs, ns, n2, m1, m2, r⟩ := S4
        exact ⟨cur, seed, t1, t2, n1, vs, ns, n2, hdrp _ m1 (show @Ne Nat src sd by omega), hdrp _ m2 (show @Ne Nat lst sd by omega), r⟩
      · obtain ⟨⟨tk0, hkey⟩, ⟨tkd, hkd⟩, ⟨twd, hwd⟩, hnm, him, hnw⟩ := hsi
        refine ⟨⟨⟨tk0, (hgo _ (by decide) (by decide)).trans hkey⟩, ⟨tkd, (hgo _ (by decide) (by decide)).trans hkd⟩, ⟨twd, (hgo _ (by decide) (by decide)).trans hwd⟩, (hgo _ (by decide) (by decide)).trans hnm, (hgo _ (by decide) (by decide)).trans him, (hgo _ (by decide) (by decide)).trans hnw⟩, by dsimp only; omega, by dsimp only; omega, (fun h => by cases h), fun _ => ⟨_, by dsimp only; rw [hg6, if_neg (by decide), hg5, if_pos rfl]⟩, fun _ => ⟨_, by dsimp only; rw [hg6, if_pos rfl]⟩, by dsimp only; omega, by dsimp only; omega, by dsimp only; omega, by dsimp only; omega, by rw [Sg.words_m rfl]; dsimp only; split <;> omega⟩
  · have mds2 := hk2
    k_steps
    have hk12 : ∀ q ∈ news, q.1 ≠ src → q.1 ≠ lst → q.1 ≠ sl → q.1 ≠ bp → q ∈ n2 := fun q hq a b c d => hk2 q (hk1 q hq a b) c d
    refine ret { sg := sg, sd := sd, es := es2, ne := ne2, wd := 1 + wd0, fi := 0, la := 0, net := netK k, mem := false } (nn + 1) ob' kvb' _ _ _ _ (by assumption) (by assumption) S2 ?_ msg msd msl2 mbp2 hob' (by omega) hk12 hlt (fun q hq a b => hfr q (hk1 q hq a b)) (has_cons (by exact rfl) (has_cons (by exact rfl) (has_nil)))
    exact ⟨hsi, by dsimp only; omega, by dsimp only; omega, fun _ => hfst, (fun h => by cases h), (fun h => by cases h), by dsimp only; decide, by dsimp only; decide, by dsimp only; decide, by dsimp only; decide, by show (1 : Int) ≤ 3; decide⟩
end
section

theorem inst_ne {h₀ h : Heap} {L x y C dx : Addr} {news : Led} {o : Obj} {t : String} (N : News h₀ L h news) (h1 : (x, instObj C dx) ∈ news) (h2 : (y, o) ∈ news) (hc : o.cls = .type t) : x ≠ y := fun e => by
  subst e
  have e2 := led_fun N h2 h1
  rw [e2] at hc
  cases hc
theorem str_cls {prog : Program} {w : World} {K : Type} [DecidableEq K] {knd : KeyKind prog w K} {ob : Obj} {kvs : List (K × Value)} (hd : ob.IsDictOf knd kvs) : ob.cls = .type "dict" := by
  obtain ⟨es, ep, hx, _⟩ := hd
  exact hx.1
theorem seed_ok (x : Int) : 0 ≤ 1 + x.fmod 9973 ∧ 1 + x.fmod 9973 < 2147483563 := by
  have h1 := Int.fmod_nonneg_of_pos x (b := 9973) (by decide)
  have h2 := Int.fmod_lt_of_pos x (b := 9973) (by decide)
  omega
def sgL (sgf : Nat → Sg) (k : Nat) : Array Value := ((List.range k).map fun j => Value.ref (sgf j).sg).toArray
theorem sgL_size (sgf : Nat → Sg) (k : Nat) : (sgL sgf k).size = k := by unfold sgL; simp
theorem sgL_push (sgf : Nat → Sg) (k : Nat) (S : Sg) : (sgL sgf k).push (.ref S.sg) = sgL (fun j => if j = k then S else sgf j) (k + 1) := by
  unfold sgL
  rw [List.push_toArray, List.range_succ, List.map_append]
  congr 2
  · apply List.map_congr_left
    intro j hj
    have : j ≠ k := Nat.ne_of_lt (List.mem_range.mp hj)
    simp only [this, if_false]
  · simp
def Sigs (sgf : Nat → Sg) (k : Nat) (bp : Addr) (n : Led) : Prop := ∀ j, j < k → (sgf j).Ok j ∧ ((sgf j).sg, instObj 171 (sgf j).sd) ∈ n ∧ ((sgf j).sd, dictOf (sgf j).es (sgf j).ne) ∈ n ∧ @LT.lt Nat _ bp (sgf j).sd
theorem it_ne {h₀ h : Heap} {L It a : Addr} {news : Led} {it o : Obj} (N : News h₀ L h news) (hI : (It, it) ∈ news) (ha : (a, o) ∈ news) (hic : it.cls = .type "range_iterator") (hc : o.cls ≠ .type "range_iterator") : a ≠ It := fun e => by
  subst e
  have := led_fun N ha hI
  rw [this] at hc
  exact hc hic

set_option maxRecDepth 100000 in
noncomputable def threeB : { b : List Stmt // lawP.1.1.drop 3 = b } := by
  refine' ⟨?b, ?h⟩
  case h => (dsimp only [lawP, stB, forB, List.drop, List.getElem?_cons_succ, List.getElem?_cons_zero]; exact rfl)
end
section
local macro_rules | `(tactic| walk_at "no such place") => `(tactic| fail "none")
local macro_rules | `(tactic| walk_at "exec For Name Call cons nil") => `(tactic| (k_here; (rename Fr _ _ _ _ => lF'); (with_unfolding_all refine' For_invVF lF' ?k1 ?k2 ?_; (case k1 => exact rfl); (case k2 => exact rfl); k_whole)))
local macro_rules | `(tactic| walk_at "exec For Name Attribute cons nil") => `(tactic| (k_here; (rename Fr _ _ _ _ => lF'); (with_unfolding_all refine' For_invVF lF' ?k1 ?k2 ?_; (case k1 => exact rfl); (case k2 => exact rfl); k_whole)))
local macro_rules | `(tactic| walk_at "pyIter ref") => `(tactic| (k_here; refine' hold_out ?_))

set_option maxRecDepth 100000 in
set_option maxHeartbeats 8000000 in
theorem threeT {w : World} {p : Program} {loose : List Str} {mean : ExcName → Option Value} {mg mb : Str → Option Value} {qual : Str}
    {dp un : Nat} {gd : Option (List Code)} {a : Addr} {ccd : Value} {ca : Addr} {outer : List Env} {A₀ : Around} {base h₀ : Heap} {L : Addr} {s : Shared} {Q : Flow → Shared → Prop} {E : Value → Shared → Prop} {news : Led}
    (B : Below A₀ base outer h₀) (X : (Mine.hd.heap_39 w.params).In h₀) (N : News h₀ L s.heap news) (T : Top p loose mean mg mb h₀) (hd : dp + 50 < recursionLimit) (hu : un + 600 < cLine)
   {src lst ds dd sl bp ka : Addr} {esd : List DictEntry} {ned nk : Nat} {ob co : Obj} {t1 t2 t3 t4 : Tok}
   (hS : Src src lst news) (b1 : (ds, instObj 234 dd) ∈ news) (b2 : (dd, dictOf esd ned) ∈ news) (b3 : (ka, listOf #[.str (Str.ofString "wire") t1, .str (Str.ofString "reg") t2, .str (Str.ofString "reg") t3, .str (Str.ofString "wire") t4] nk) ∈ news) (b4 : (ca, co) ∈ news) (msl : (sl, listOf #[] 0) ∈ news) (mbp : (bp, ob) ∈ news) (hob : ob.IsDictOf (PySem.strKind PySem.Challenge.rw_pq0454_01.row.prog w) []) (lob : (bp == sysModules) = false) (hcd : co.data = .cell (some (.ref src)))
   (he1 : getL (Str.ofString "signals") esd = some (some (.ref sl))) (he2 : getL (Str.ofString "by_path") esd = some (some (.ref bp))) (he3 : getL (Str.ofString "add_signal") esd = some none)
   (hne : @Ne Nat src lst) (l1 : @LT.lt Nat _ src dd) (l2 : @LT.lt Nat _ lst dd) (l3 : @LT.lt Nat _ dd ds) (l4 : @LT.lt Nat _ ds sl) (l5 : @LT.lt Nat _ sl bp) (l6 : @LT.lt Nat _ bp ka)
   {u : Str → Option Value} (F : Fr h₀ L s.heap (fun y => if y = Str.ofString "design" then some (.ref ds) else if y = Str.ofString "kinds" then some (.ref ka) else u y))
   (hE : PassesOwn (model PySem.Challenge.rw_pq0454_01.row.prog w) (ktrTop dp un gd qual lawP.1.2 L a ccd [(Str.ofString "source", ca)] outer) (envX qual lawP.1.2 L a ccd [(Str.ofString "source", ca)]) E)
   (ret : ∀ m' news' h' tk', Fr h₀ L h' m' → News h₀ L h' news' → Q (.ret (.bool true)) { s with heap := h', toks := tk' }) :
   wpAny (model PySem.Challenge.rw_pq0454_01.row.prog w) (ktrTop dp un gd qual lawP.1.2 L a ccd [(Str.ofString "source", ca)] outer) (execs threeB.1 (envX qual lawP.1.2 L a ccd [(Str.ofString "source", ca)])) Q E s := by
  dsimp only [threeB, lawP] at F hE ⊢
  revert X
  k_fill
  intro X
  have hbase : ∀ q ∈ [(ds, instObj 234 dd), (dd, dictOf esd ned), (ka, listOf #[.str (Str.ofString "wire") t1, .str (Str.ofString "reg") t2, .str (Str.ofString "reg") t3, .str (Str.ofString "wire") t4] nk), (ca, co)], q ∈ news := by
    intro q hq
    simp only [List.mem_cons, List.not_mem_nil, or_false] at hq
    rcases hq with rfl | rfl | rfl | rfl
    · exact b1
    · exact b2
    · exact b3
    · exact b4
  refine wpAny_execs_cons ?_
  k_steps
  refine hold_in ?_
  rename IsRange _ _ _ _ _ _ _ _ => rg
  rename Fr _ _ _ _ => F5
  rename News _ _ _ _ => N5
  refine range_rule (n := 4) (fun k m' n' => (∃ (sgf : Nat → Sg) (nn : Nat) (ob : Obj) (kvb : List (Str × Value)), Src src lst n' ∧ Sigs sgf k bp n' ∧ (sl, listOf (sgL sgf k) nn) ∈ n' ∧ (bp, ob) ∈ n' ∧ ob.IsDictOf (PySem.strKind PySem.Challenge.rw_pq0454_01.row.prog w) kvb ∧ kvb.length ≤ k ∧ ∀ q ∈ [(ds, instObj 234 dd), (dd, dictOf esd ned), (ka, listOf #[.str (Str.ofString "wire") t1, .str (Str.ofString "reg") t2, .str (Str.ofString "reg") t3, .str (Str.ofString "wire") t4] nk), (ca, co)], q ∈ n') ∧ Has m' [(Str.ofString "design", .ref ds), (Str.ofString "kinds", .ref ka)]) rfl rg (by decide) (by decide) F5 N5 ⟨⟨fun _ => ⟨0, 0, [], 0, 0, 0, 0, true, true⟩, 0, ob, [], hS, (fun j hj => absurd hj (Nat.not_lt_zero _)), msl, mbp, hob, Nat.le_refl _, hbase⟩, (has_cons (by exact rfl) (has_cons (by exact rfl) (has_nil)))⟩ ?turn ?done
  case turn =>
    rintro k m₁ n₁ It it t h tk hk ⟨⟨sgf, nn, ob, kvb, S1, G1, msl1, mbp1, hob1, hkb1, hb1⟩, hps⟩ hic hoff F9 N9
    rw [Int.zero_add] at F9
    have F1 : Fr h₀ L h (fun y => if y = Str.ofString "at" then some (.int (k : Int) t) else if y = Str.ofString "design" then some (.ref ds) else if y = Str.ofString "kinds" then some (.ref ka) else m₁ y) := fr_has F9 hps
    obtain ⟨_, _, _, _, _, _, _, _, q1, q2, _⟩ := id S1
    obtain ⟨_, _, _, _, _, _, _, _, q01, q02, _⟩ := id hS
    have bds := hb1 _ (.head _)
    have bdd := hb1 _ (.tail _ (.head _))
    have bka := hb1 _ (.tail _ (.tail _ (.head _)))
    have bca := hb1 _ (.tail _ (.tail _ (.tail _ (.head _))))
    have N1 : News h₀ L h n₁ := fun q hq => N9 q (.tail _ hq)
    have c1 := cell_ne N1 q1 bca hcd
    have c2 := cell_ne N1 q2 bca hcd
    have c3 := cell_ne N1 msl1 bca hcd
    have c4 := cell_ne_dict N1 mbp1 hob1 bca hcd
    refine s3T B X N9 T hd hu (nn := nn) (its := sgL sgf k) (kvb := kvb) hk (S1.sub fun q hq => .tail _ hq) (.tail _ bds) (.tail _ bdd) (.tail _ msl1) (.tail _ mbp1) hob1 lob (sgL_size _ _) hkb1 (.tail _ bka) (.tail _ bca) hcd he1 he2 he3 hne l1 l2 l3 l4 l5 l6 F1 hE (fun S nn' ob' kvb' m' n' h' tk' F' N' S' hOk a1 a2 a3 a4 a5 a6 hkeep hlt hnew has' => ?_)
    have hI : (It, it) ∈ n' := hkeep _ (.head _) (fun e => hoff _ q01 e.symm) (fun e => hoff _ q02 e.symm) (fun e => hoff _ msl e.symm) (fun e => hoff _ mbp e.symm)
    have dI : ∀ {a : Addr} {o : Obj}, (a, o) ∈ n' → o.cls ≠ .type "range_iterator" → (a, o) ∈ drp It n' := fun hm hc => mem_drp.mpr ⟨hm, it_ne N' hI hm hic hc⟩
    have dB : ∀ q ∈ [(ds, instObj 234 dd), (dd, dictOf esd ned), (ka, listOf #[.str (Str.ofString "wire") t1, .str (Str.ofString "reg") t2, .str (Str.ofString "reg") t3, .str (Str.ofString "wire") t4] nk), (ca, co)], q ∈ n' := by
      intro q hq
      simp only [List.mem_cons, List.not_mem_nil, or_false] at hq
      rcases hq with rfl | rfl | rfl | rfl
      · exact hkeep _ (.tail _ bds) (show @Ne Nat ds src by omega) (show @Ne Nat ds lst by omega) (show @Ne Nat ds sl by omega) (show @Ne Nat ds bp by omega)
      · exact hkeep _ (.tail _ bdd) (show @Ne Nat dd src by omega) (show @Ne Nat dd lst by omega) (show @Ne Nat dd sl by omega) (show @Ne Nat dd bp by omega)
      · exact hkeep _ (.tail _ bka) (show @Ne Nat ka src by omega) (show @Ne Nat ka lst by omega) (show @Ne Nat ka sl by omega) (show @Ne Nat ka bp by omega)
      · exact hkeep _ (.tail _ bca) c1 c2 c3 c4
    refine TurnPost.end (.inl rfl) F' N' hI ⟨⟨fun j => if j = k then S else sgf j, nn', ob', kvb', ?_, fun j hj => ?_, ?_, dI a4 (by rw [str_cls a5]; decide), a5, a6, fun q hq => mem_drp.mpr ⟨dB q hq, hoff q (hbase q hq)⟩⟩, has'⟩
    · obtain ⟨cur, seed, t1, t2, n1, vs, ns, n2, m1, m2, r⟩ := S'
      exact ⟨cur, seed, t1, t2, n1, vs, ns, n2, dI m1 (by exact fun e => absurd (Value.type.inj e) (by decide)), dI m2 (by exact fun e => absurd (Value.type.inj e) (by decide)), r⟩
    · by_cases e : j = k
      · subst e
        simp only [if_true]
        exact ⟨hOk, dI a1 (by exact fun e => by cases e), dI a2 (by exact fun e => absurd (Value.type.inj e) (by decide)), hlt⟩
      · simp only [e, if_false]
        obtain ⟨g1, g2, g3, g4⟩ := G1 j (by omega)
        exact ⟨g1, dI (hkeep _ (.tail _ g2) (inst_ne N1 g2 q1 rfl) (inst_ne N1 g2 q2 rfl) (inst_ne N1 g2 msl1 rfl) (inst_ne N1 g2 mbp1 (str_cls hob1))) (by exact fun e => by cases e), dI (hkeep _ (.tail _ g3) (show @Ne Nat (sgf j).sd src by omega) (show @Ne Nat (sgf j).sd lst by omega) (show @Ne Nat (sgf j).sd sl by omega) (show @Ne Nat (sgf j).sd bp by omega)) (by exact fun e => absurd (Value.type.inj e) (by decide)), g4⟩
    · rw [sgL_push] at a3
      exact dI a3 (by exact fun e => absurd (Value.type.inj e) (by decide))
  case done =>
    rintro m₁ n₁ h tk ⟨⟨sgf, nn, ob, kvb, S1, G1, msl1, mbp1, hob1, hkb1, hb1⟩, hps⟩ F9 N9
    have N1 : News h₀ L h n₁ := N9
    obtain ⟨u2, F10⟩ : ∃ u2 : Str → Option Value, Fr h₀ L h (fun y => if y = Str.ofString "design" then some (.ref ds) else u2 y) := ⟨_, fr_has0 (ps := [(Str.ofString "design", .ref ds), (Str.ofString "kinds", .ref ka)]) F9 hps⟩
    obtain ⟨_, _, _, _, _, _, _, _, q1, q2, _⟩ := id S1
    have bds := hb1 _ (.head _)
    have bdd := hb1 _ (.tail _ (.head _))
    have bca := hb1 _ (.tail _ (.tail _ (.tail _ (.head _))))
    have c1 := cell_ne N1 q1 bca hcd
    have c2 := cell_ne N1 q2 bca hcd
    clear F5 N5 rg
    dsimp only
    have hlt4 : ∀ {j : Nat}, j < 4 → j = 0 ∨ j = 1 ∨ j = 2 ∨ j = 3 := fun h => by omega
    refine fourT (sg := sgf) (fz0 := [(sl, listOf (sgL sgf 4) nn), (ds, instObj 234 dd), (dd, dictOf esd ned), (ca, co), ((sgf 0).sg, instObj 171 (sgf 0).sd), ((sgf 1).sg, instObj 171 (sgf 1).sd), ((sgf 2).sg, instObj 171 (sgf 2).sd), ((sgf 3).sg, instObj 171 (sgf 3).sd), ((sgf 0).sd, dictOf (sgf 0).es (sgf 0).ne), ((sgf 1).sd, dictOf (sgf 1).es (sgf 1).ne), ((sgf 2).sd, dictOf (sgf 2).es (sgf 2).ne), ((sgf 3).sd, dictOf (sgf 3).es (sgf 3).ne)])
      B X N1 T hd hu S1 hne (fun k hk => (G1 k hk).1) (fun q hq => ?_) (fun k hk => ?_) (fun k hk => ?_) (.head _) (.tail _ (.head _)) (.tail _ (.tail _ (.head _))) he1 ⟨co, .tail _ (.tail _ (.tail _ (.head _))), hcd⟩ F10 hE ret
    · have hsg : ∀ j, j < 4 → ((sgf j).sg, instObj 171 (sgf j).sd) ∈ n₁ ∧ (sgf j).sg ≠ src ∧ (sgf j).sg ≠ lst := fun j hj => ⟨(G1 j hj).2.1, inst_ne N1 (G1 j hj).2.1 q1 rfl, inst_ne N1 (G1 j hj).2.1 q2 rfl⟩
      have hsd : ∀ j, j < 4 → ((sgf j).sd, dictOf (sgf j).es (sgf j).ne) ∈ n₁ ∧ (sgf j).sd ≠ src ∧ (sgf j).sd ≠ lst := fun j hj => by
        have := (G1 j hj).2.2.2
        exact ⟨(G1 j hj).2.2.1, show @Ne Nat (sgf j).sd src by omega, show @Ne Nat (sgf j).sd lst by omega⟩
      simp only [List.mem_cons, List.not_mem_nil, or_false] at hq
      rcases hq with rfl | rfl | rfl | rfl | rfl | rfl | rfl | rfl | rfl | rfl | rfl | rfl
      · exact ⟨msl1, show @Ne Nat sl src by omega, show @Ne Nat sl lst by omega⟩
      · exact ⟨bds, show @Ne Nat ds src by omega, show @Ne Nat ds lst by omega⟩
      · exact ⟨bdd, show @Ne Nat dd src by omega, show @Ne Nat dd lst by omega⟩
      · exact ⟨bca, c1, c2⟩
      · exact hsg 0 (by decide)
      · exact hsg 1 (by decide)
      · exact hsg 2 (by decide)
      · exact hsg 3 (by decide)
      · exact hsd 0 (by decide)
      · exact hsd 1 (by decide)
      · exact hsd 2 (by decide)
      · exact hsd 3 (by decide)
    · rcases hlt4 hk with rfl | rfl | rfl | rfl <;> simp
    · rcases hlt4 hk with rfl | rfl | rfl | rfl <;> simp

set_option maxRecDepth 100000 in
noncomputable def oneB : { b : List Stmt // lawP.1.1.drop 1 = b } := by
  refine' ⟨?b, ?h⟩
  case h => (dsimp only [lawP, stB, forB, List.drop, List.getElem?_cons_succ, List.getElem?_cons_zero]; exact rfl)
end
section
local macro_rules | `(tactic| walk_at "call ref") => `(tactic| (k_here; refine' hold_out ?_))
local macro_rules | `(tactic| walk_at "execs cons") => `(tactic| (k_here; refine' hold_out ?_))

set_option maxRecDepth 100000 in
set_option maxHeartbeats 8000000 in
theorem oneT {w : World} {p : Program} {loose : List Str} {mean : ExcName → Option Value} {mg mb : Str → Option Value} {qual : Str}
    {dp un : Nat} {gd : Option (List Code)} {a : Addr} {ccd : Value} {ca : Addr} {outer : List Env} {A₀ : Around} {base h₀ : Heap} {L : Addr} {s : Shared} {Q : Flow → Shared → Prop} {E : Value → Shared → Prop} {news : Led}
    (B : Below A₀ base outer h₀) (X : (Mine.hd.heap_39 w.params).In h₀) (N : News h₀ L s.heap news) (T : Top p loose mean mg mb h₀) (hd : dp + 50 < recursionLimit) (hu : un + 600 < cLine)
   {src lst : Addr} {co : Obj} (hS : Src src lst news) (hne : @Ne Nat src lst) (mca : (ca, co) ∈ news) (hcd : co.data = .cell (some (.ref src)))
   {u : Str → Option Value} (F : Fr h₀ L s.heap u)
   (hE : PassesOwn (model PySem.Challenge.rw_pq0454_01.row.prog w) (ktrTop dp un gd qual lawP.1.2 L a ccd [(Str.ofString "source", ca)] outer) (envX qual lawP.1.2 L a ccd [(Str.ofString "source", ca)]) E)
   (ret : ∀ m' news' h' tk', Fr h₀ L h' m' → News h₀ L h' news' → Q (.ret (.bool true)) { s with heap := h', toks := tk' }) :
   wpAny (model PySem.Challenge.rw_pq0454_01.row.prog w) (ktrTop dp un gd qual lawP.1.2 L a ccd [(Str.ofString "source", ca)] outer) (execs oneB.1 (envX qual lawP.1.2 L a ccd [(Str.ofString "source", ca)])) Q E s := by
  dsimp only [oneB, lawP] at F hE ⊢
  revert X
  k_fill
  intro X
  obtain ⟨_, _, _, _, _, _, _, _, q1, q2, _⟩ := id hS
  refine wpAny_execs_cons ?_
  k_steps
  refine hold_in ?_
  rename Fr _ _ _ _ => F5
  rename News _ _ _ _ => N5
  refine con_use con_Design B F5 X N5 T rfl trivial (by ktr_room) (by ktr_units) ?_
  clear F5 N5
  rintro r' n1 h1 tk1 F1 N1 ⟨ds, dd, es, ne, sl, bp, ob, rfl, ⟨ge1, ge2, ge3⟩, x1, x2, x3, x4, x5, x6, sub1, lt1, y1, y2, y3⟩
  k_steps
  refine hold_in ?_
  refine wpAny_execs_cons ?_
  k_steps
  refine hold_in ?_
  rename Fr _ _ _ _ => F5
  rename News _ _ _ _ => N5
  rename (∀ p ∈ n1, p.1 < _) => lt2
  obtain ⟨u2, F10⟩ : ∃ u2 : Str → Option Value, Fr h₀ L _ (fun y => if y = Str.ofString "design" then some (.ref ds) else if y = Str.ofString "kinds" then some (.ref _) else u2 y) := ⟨_, fr_has0 (ps := [(Str.ofString "design", .ref ds), (Str.ofString "kinds", .ref _)]) F5 (has_cons (by exact rfl) (has_cons (by exact rfl) (has_nil)))⟩
  dsimp only
  exact threeT B X N5 T hd hu (hS.sub fun q hq => .tail _ (sub1 q hq)) (.tail _ x1) (.tail _ x2) (.head _) (.tail _ (sub1 _ mca)) (.tail _ x3) (.tail _ x4) x5 x6 hcd ge1 ge2 ge3 hne (lt1 _ q1) (lt1 _ q2) y1 y2 y3 (lt2 _ x4) F10 hE ret
end
section
local macro_rules | `(tactic| walk_at "no such place") => `(tactic| fail "none")
local macro_rules | `(tactic| walk_at "call ref") => `(tactic| (k_here; refine' hold_out ?_))
local macro_rules | `(tactic| walk_at "execs cons") => `(tactic| (k_here; refine' hold_out ?_))

set_option maxRecDepth 100000 in
set_option maxHeartbeats 8000000 in
theorem lawT {w : World} {p : Program} {loose : List Str} {mean : ExcName → Option Value} {mg mb : Str → Option Value} {qual : Str}
    {dp un : Nat} {gd : Option (List Code)} {a : Addr} {ccd : Value} {ca : Addr} {outer : List Env} {A₀ : Around} {base h₀ : Heap} {L : Addr} {s : Shared} {Q : Flow → Shared → Prop} {E : Value → Shared → Prop} 
    (B : Below A₀ base outer h₀) (X : (Mine.hd.heap_39 w.params).In h₀)  (T : Top p loose mean mg mb h₀) (hd : dp + 50 < recursionLimit) (hu : un + 600 < cLine) {co : Obj} (N : News h₀ L s.heap [(ca, co)]) (hcd : co.data = .cell none)
   {sa : Addr} {vs : List Value} {ns : List Int} (hl : h₀.IsList sa vs.toArray) (hi : IntsAre vs ns) (hlen : ns.length ≤ 63)
   {u : Str → Option Value} (F : Fr h₀ L s.heap (fun y => if y = Str.ofString "script" then some (.ref sa) else u y))
   (hE : PassesOwn (model PySem.Challenge.rw_pq0454_01.row.prog w) (ktrTop dp un gd qual lawP.1.2 L a ccd [(Str.ofString "source", ca)] outer) (envX qual lawP.1.2 L a ccd [(Str.ofString "source", ca)]) E)
   (ret : ∀ m' news' h' tk', Fr h₀ L h' m' → News h₀ L h' news' → Q (.ret (.bool true)) { s with heap := h', toks := tk' }) :
   wpAny (model PySem.Challenge.rw_pq0454_01.row.prog w) (ktrTop dp un gd qual lawP.1.2 L a ccd [(Str.ofString "source", ca)] outer) (execs lawP.1.1 (envX qual lawP.1.2 L a ccd [(Str.ofString "source", ca)])) Q E s := by
  dsimp only [lawP] at F hE ⊢
  revert X
  k_fill
  intro X
  refine wpAny_execs_cons ?_
  k_steps
  refine hold_in ?_
  rename Fr _ _ _ _ => F5
  rename News _ _ _ _ => N5
  rename (Obj.data _ = Data.cell (some _)) => hcd2
  rename (_ < _ ∧ _ < _ ∧ _ < _ ∧ ca < _) => o4
  have hle : ∀ {ws : List Value}, IntsAre ws (List.take 40 ns) → ws.length ≤ 64 := fun h => by
    have := h.length
    rw [List.length_take] at this
    omega
  have hs := seed_ok (List.take 40 ns).sum
  refine oneT B X N5 T hd hu ⟨0, _, _, _, _, _, _, _, .head _, .tail _ (.tail _ (.head _)), by assumption, ?_, Int.le_refl _, hs.1, hs.2⟩ (Nat.ne_of_gt o4.2.1) (.tail _ (.tail _ (.tail _ (.tail _ (.head _))))) hcd2 F5 hE ret
  exact hle (by assumption)
end
end
end
end Mine
local macro_rules | `(tactic| k_qdec) => `(tactic| decide +kernel)
set_option maxRecDepth 100000 in
set_option maxHeartbeats 80000000 in
theorem PySem.Challenge.cw_pq0454_01_holds : PySem.Challenge.rw_pq0454_01.Holds := by
  refine holds_law Mine.hd.said fun said => ?_
  refine holds_open (q := Mine.hd.view_39) (loose := []) (Xt := fun s => xlAt Mine.hd.view_39 [] s && recOk [] s) (XP := XL Mine.hd.view_39 []) (Yf := Hook.obs (kHook Mine.hd.heap_39 Mine.hd.asK Mine.hd.asK_eq)) (Ya := Hook.val (kHook Mine.hd.heap_39 Mine.hd.asK Mine.hd.asK_eq)) (YP := Hook.says (kHook Mine.hd.heap_39 Mine.hd.asK Mine.hd.asK_eq)) (N := 3196) Mine.hd.left (Hook.of _) (Hook.keeps _) (fun s e => xl_of s (Bool.and_eq_true_iff.mp e).1) XL.keeps (by rfl) (by rfl) (by rfl) (fun s e => recFacts_of (Bool.and_eq_true_iff.mp e).2) (by rfl) said (by decide +kernel) ⟨rfl, rfl, rfl, rfl, rfl, by decide +kernel⟩ ⟨[.list []], by decide +kernel, by decide +kernel⟩ ?hc
  k_go0
  all_goals (try k_fold)
  refine' Mine.lawT ?B ?X ?T ?hd ?hu ?N ?hcd ?hl ?hi ?hlen ?F ?hE ?ret
  case N => k_asm
  case hl => assumption
  case hi => assumption
  case X => assumption
  case T => assumption
  case B => assumption
  case hd => decide
  case hu => decide
  case hlen => omega
  case hcd => assumption
  case F => assumption
  case hE => passes_own
  case ret =>
    intro m' n' h' tk' F' N'
    k_steps
