import PyProof.Rows.All
import Wide.All
import OpenK.AllK
import Wide.FinOn
import PyProof.ExcClass2
import PyProof.ExcAttrAll.Exception
import KE.KNestM
import KE.KLam
import PySem.Challenge.RW_pq1441_01

section
open PySem PySem.W PySem.Calls PyProof.Rows PySem.Spec
set_option Elab.async false
set_option maxRecDepth 100000
set_option maxHeartbeats 8000000
namespace Mine
abbrev pw : Program := PySem.Challenge.pw_pq1441_01
def ent (P : Params) (x : PySem.Str) (t : Tok) (v : Value) : DictEntry := ⟨PyData.keyHash P x, .str x t, v⟩
def ofDef : Option Stmt → Arguments × List Stmt × Scope
  | some (.FunctionDef _ a b _ _ _ s _ _ _) => (a, b, s)
  | _ => (⟨[], [], none, [], [], none, []⟩, [], default)
def fnAt (i : Nat) : Arguments × List Stmt × Scope := ofDef pw.main.body[i]?
def mtAt (i j : Nat) : Arguments × List Stmt × Scope := match pw.main.body[i]? with
  | some (.ClassDef _ _ _ b _ _ _ _ _ _ _) => ofDef b[j]?
  | _ => ofDef none
def fno (name qual : PySem.Str) (w : Arguments × List Stmt × Scope) (dV kV doc pm : Value) (an : Option Addr) (cd ct : Value) (g b : Addr) : Obj :=
  ⟨.type "function", none, .func { name := name, qualname := qual, params := w.1, body := .stmts w.2.1, scope := w.2.2, globals := g, closure := [], defaults := dV, kwdefaults := kV, doc := doc, pyModule := pm, annotations := an, code := cd, closureTuple := ct, builtins := b }, #[]⟩
noncomputable def frag (P : Params) : Frag :=
  (nat_lit 2, ⟨.none, none, .dict #[ent P "type.__subclasses__.Exception.0" 242 (.int (55) 0), ent P "type.__subclasses__.Exception.n" 243 (.int (1) 0)] 2, #[]⟩) ::
  (nat_lit 3, ⟨.type "dict", none, .dict #[ent P "__name__" 165 (.str "law_pq1441_01" 775), ent P "__doc__" 166 (.none), ent P "__package__" 167 (.none), ent P "__loader__" 168 (.builtin "__main__.__loader__#opaque"), ent P "__spec__" 169 (.none), ent P "__annotations__" 170 (.ref 6), ent P "__builtins__" 171 (.ref 4), ent P "__file__" 173 (.str "/claim/cut.py" 172), ent P "__cached__" 174 (.none), ent P "_wall" 193 (.ref 21), ent P "get_attr" 203 (.ref 28), ent P "names_of" 209 (.ref 33), ent P "dim_of" 217 (.ref 40), ent P "dimnames_of" 223 (.ref 45), ent P "CoveError" 245 (.ref 55), ent P "Refusal" 270 (.ref 75), ent P "is_finite" 279 (.ref 84), ent P "to_whole" 287 (.ref 91), ent P "whole_subscripts" 298 (.ref 98), ent P "logical_places" 310 (.ref 105), ent P "whole_places" 316 (.ref 110), ent P "first_places" 326 (.ref 117), ent P "name_places" 337 (.ref 124), ent P "extending_places" 351 (.ref 131), ent P "positions" 362 (.ref 138), ent P "axis" 374 (.ref 145), ent P "strides" 384 (.ref 152), ent P "is_matrix_index" 393 (.ref 159), ent P "row_place" 405 (.ref 166), ent P "named_subscripts" 421 (.ref 173), ent P "matrix_index" 427 (.ref 179), ent P "Null" 458 (.ref 196), ent P "Missing" 487 (.ref 217), ent P "Vector" 529 (.ref 246), ent P "Call" 564 (.ref 268), ent P "integer" 571 (.ref 279), ent P "character" 578 (.ref 286), ent P "named" 586 (.ref 293), ent P "is_vector" 593 (.ref 300), ent P "share" 600 (.ref 307), ent P "lacking_item" 609 (.ref 314), ent P "refuse_subset" 616 (.ref 321), ent P "result_kind" 623 (.ref 328), ent P "items_at" 634 (.ref 335), ent P "names_at" 644 (.ref 342), ent P "subset_vector" 655 (.ref 349), ent P "array_places" 669 (.ref 356), ent P "array_axes" 682 (.ref 363), ent P "heads_of_dimnames" 690 (.ref 370), ent P "picked_dimnames" 701 (.ref 377), ent P "dimnames_value" 712 (.ref 384), ent P "put_shape" 723 (.ref 391), ent P "only_names" 732 (.ref 398), ent P "put_dropped" 738 (.ref 403), ent P "subset_array" 744 (.ref 408), ent P "subset_row" 756 (.ref 415), ent P "subset_call" 762 (.ref 420), ent P "subset_any" 774 (.ref 427), ent P "_law_row" 787 (.ref 434), ent P "_law_next" 794 (.ref 441), ent P "_law_reduced" 804 (.ref 448), ent P "_law_text" 812 (.ref 455), ent P "_law_number" 821 (.ref 462), ent P "_law_index" 827 (.ref 467), ent P "_law_cut" 837 (.ref 474), ent P "_law_due" 843 (.ref 479), ent P "_law_item" 852 (.ref 486), ent P "_law_view" 858 (.ref 491), ent P "_law_kept" 866 (.ref 498), ent P "_law_vector" 872 (.ref 503), ent P "law" 878 (.ref 508)] 71, #[]⟩) ::
  (nat_lit 20, ⟨.type "code", none, .fields #[.str "_wall" 187, .str "_wall" 188, .str "/claim/cut.py" 189, .int (1) 0, .int (1) 0, .int (0) 0, .int (0) 0, .int (3) 0, .ref 15, .bool true, .int (181) 0, .ref 16, .none, .ref 17, .ref 18, .ref 19, .int (191) 0, .int (1) 0, .str "/claim/cut.py" 192], #[]⟩) ::
  (nat_lit 21, fno "_wall" "_wall" (fnAt 0) (.none) (.none) (.none) (.str "__main__" 164) none (.ref 20) (.none) 3 0) ::
  (nat_lit 27, ⟨.type "code", none, .fields #[.str "get_attr" 196, .str "get_attr" 197, .str "/claim/cut.py" 198, .int (5) 0, .int (2) 0, .int (0) 0, .int (0) 0, .int (3) 0, .ref 22, .bool true, .int (181) 0, .ref 23, .none, .ref 24, .ref 25, .ref 26, .int (201) 0, .int (5) 0, .str "/claim/cut.py" 202], #[]⟩) ::
  (nat_lit 28, fno "get_attr" "get_attr" (fnAt 2) (.none) (.none) (.none) (.str "vectorcove.attrs" 194) none (.ref 27) (.none) 3 0) ::
  (nat_lit 32, ⟨.type "code", none, .fields #[.str "names_of" 204, .str "names_of" 205, .str "/claim/cut.py" 206, .int (9) 0, .int (1) 0, .int (0) 0, .int (0) 0, .int (3) 0, .ref 29, .bool true, .int (181) 0, .ref 30, .none, .none, .none, .ref 31, .int (207) 0, .int (9) 0, .str "/claim/cut.py" 208], #[]⟩) ::
  (nat_lit 33, fno "names_of" "names_of" (fnAt 3) (.none) (.none) (.none) (.str "vectorcove.attrs" 194) none (.ref 32) (.none) 3 0) ::
  (nat_lit 39, ⟨.type "code", none, .fields #[.str "dim_of" 210, .str "dim_of" 211, .str "/claim/cut.py" 212, .int (25) 0, .int (1) 0, .int (0) 0, .int (0) 0, .int (3) 0, .ref 34, .bool true, .int (181) 0, .ref 35, .none, .ref 36, .ref 37, .ref 38, .int (215) 0, .int (25) 0, .str "/claim/cut.py" 216], #[]⟩) ::
  (nat_lit 40, fno "dim_of" "dim_of" (fnAt 4) (.none) (.none) (.none) (.str "vectorcove.attrs" 194) none (.ref 39) (.none) 3 0) ::
  (nat_lit 44, ⟨.type "code", none, .fields #[.str "dimnames_of" 218, .str "dimnames_of" 219, .str "/claim/cut.py" 220, .int (30) 0, .int (1) 0, .int (0) 0, .int (0) 0, .int (3) 0, .ref 41, .bool true, .int (181) 0, .ref 42, .none, .none, .none, .ref 43, .int (221) 0, .int (30) 0, .str "/claim/cut.py" 222], #[]⟩) ::
  (nat_lit 45, fno "dimnames_of" "dimnames_of" (fnAt 5) (.none) (.none) (.none) (.str "vectorcove.attrs" 194) none (.ref 44) (.none) 3 0) ::
  (nat_lit 54, ⟨.type "dict", none, .dict #[ent P "__module__" 233 (.str "vectorcove.errors" 224), ent P "__firstlineno__" 237 (.int (36) 236), ent P "__static_attributes__" 238 (.ref 53), ent P "__weakref__" 240 (.ref 56), ent P "__doc__" 241 (.none)] 3, #[]⟩) ::
  (nat_lit 55, ⟨.type "type", none, Data.cls   { name := Str.ofString "CoveError", bases := [Value.type "Exception"],     mro := [Value.ref 55, Value.type "Exception", Value.type "BaseException", Value.type "object"], ns := 54,     qualname := Str.ofString "CoveError", subclasses := [Value.ref 75] }, #[some (.ref 46), none, some (.str "CoveError" 226), some (.str "CoveError" 234), some (.builtin "Exception.__new__"), some (.bool true)]⟩) ::
  (nat_lit 56, ⟨.type "getset_descriptor", none, .fields #[.str "__weakref__" 239, .ref 55, .builtin "ExceptionGroup.__weakref__", .none], #[]⟩) ::
  (nat_lit 71, ⟨.type "code", none, .fields #[.str "__init__" 258, .str "Refusal.__init__" 259, .str "/claim/cut.py" 260, .int (40) 0, .int (2) 0, .int (0) 0, .int (0) 0, .int (3) 0, .ref 66, .bool true, .int (181) 0, .ref 67, .none, .ref 68, .ref 69, .ref 70, .int (263) 0, .int (40) 0, .str "/claim/cut.py" 264], #[]⟩) ::
  (nat_lit 72, fno "__init__" "Refusal.__init__" (mtAt 8 0) (.none) (.none) (.none) (.str "vectorcove.errors" 224) none (.ref 71) (.none) 3 0) ::
  (nat_lit 74, ⟨.type "dict", none, .dict #[ent P "__module__" 253 (.str "vectorcove.errors" 224), ent P "__firstlineno__" 257 (.int (38) 256), ent P "__init__" 265 (.ref 72), ent P "__static_attributes__" 267 (.ref 73), ent P "__doc__" 268 (.none)] 2, #[]⟩) ::
  (nat_lit 75, ⟨.type "type", none, Data.cls   { name := Str.ofString "Refusal", bases := [Value.ref 55],     mro := [Value.ref 75, Value.ref 55, Value.type "Exception", Value.type "BaseException", Value.type "object"],     ns := 74, qualname := Str.ofString "Refusal" }, #[some (.ref 59), none, some (.str "Refusal" 246), some (.str "Refusal" 254), some (.builtin "Exception.__new__"), some (.bool true)]⟩) ::
  (nat_lit 83, ⟨.type "code", none, .fields #[.str "is_finite" 273, .str "is_finite" 274, .str "/claim/cut.py" 275, .int (43) 0, .int (1) 0, .int (0) 0, .int (0) 0, .int (3) 0, .ref 78, .bool true, .int (181) 0, .ref 79, .none, .ref 80, .ref 81, .ref 82, .int (277) 0, .int (43) 0, .str "/claim/cut.py" 278], #[]⟩) ::
  (nat_lit 84, fno "is_finite" "is_finite" (fnAt 10) (.none) (.none) (.none) (.str "vectorcove.rational" 271) none (.ref 83) (.none) 3 0) ::
  (nat_lit 90, ⟨.type "code", none, .fields #[.str "to_whole" 280, .str "to_whole" 281, .str "/claim/cut.py" 282, .int (45) 0, .int (1) 0, .int (0) 0, .int (0) 0, .int (3) 0, .ref 85, .bool true, .int (181) 0, .ref 86, .none, .ref 87, .ref 88, .ref 89, .int (285) 0, .int (45) 0, .str "/claim/cut.py" 286], #[]⟩) ::
  (nat_lit 91, fno "to_whole" "to_whole" (fnAt 11) (.none) (.none) (.none) (.str "vectorcove.rational" 271) none (.ref 90) (.none) 3 0) ::
  (nat_lit 97, ⟨.type "code", none, .fields #[.str "whole_subscripts" 290, .str "whole_subscripts" 291, .str "/claim/cut.py" 292, .int (51) 0, .int (1) 0, .int (0) 0, .int (0) 0, .int (3) 0, .ref 92, .bool true, .int (181) 0, .ref 93, .none, .ref 94, .ref 95, .ref 96, .int (296) 0, .int (51) 0, .str "/claim/cut.py" 297], #[]⟩) ::
  (nat_lit 98, fno "whole_subscripts" "whole_subscripts" (fnAt 13) (.none) (.none) (.none) (.str "vectorcove.index" 288) none (.ref 97) (.none) 3 0) ::
  (nat_lit 104, ⟨.type "code", none, .fields #[.str "logical_places" 299, .str "logical_places" 300, .str "/claim/cut.py" 301, .int (61) 0, .int (2) 0, .int (0) 0, .int (0) 0, .int (3) 0, .ref 99, .bool true, .int (181) 0, .ref 100, .none, .ref 101, .ref 102, .ref 103, .int (308) 0, .int (61) 0, .str "/claim/cut.py" 309], #[]⟩) ::
  (nat_lit 105, fno "logical_places" "logical_places" (fnAt 14) (.none) (.none) (.none) (.str "vectorcove.index" 288) none (.ref 104) (.none) 3 0) ::
  (nat_lit 109, ⟨.type "code", none, .fields #[.str "whole_places" 311, .str "whole_places" 312, .str "/claim/cut.py" 313, .int (73) 0, .int (2) 0, .int (0) 0, .int (0) 0, .int (3) 0, .ref 106, .bool true, .int (181) 0, .ref 107, .none, .none, .none, .ref 108, .int (314) 0, .int (73) 0, .str "/claim/cut.py" 315], #[]⟩) ::
  (nat_lit 110, fno "whole_places" "whole_places" (fnAt 15) (.none) (.none) (.none) (.str "vectorcove.index" 288) none (.ref 109) (.none) 3 0) ::
  (nat_lit 116, ⟨.type "code", none, .fields #[.str "first_places" 317, .str "first_places" 318, .str "/claim/cut.py" 319, .int (92) 0, .int (1) 0, .int (0) 0, .int (0) 0, .int (3) 0, .ref 111, .bool true, .int (181) 0, .ref 112, .none, .ref 113, .ref 114, .ref 115, .int (324) 0, .int (92) 0, .str "/claim/cut.py" 325], #[]⟩) ::
  (nat_lit 117, fno "first_places" "first_places" (fnAt 16) (.none) (.none) (.none) (.str "vectorcove.index" 288) none (.ref 116) (.none) 3 0) ::
  (nat_lit 123, ⟨.type "code", none, .fields #[.str "name_places" 327, .str "name_places" 328, .str "/claim/cut.py" 329, .int (100) 0, .int (2) 0, .int (0) 0, .int (0) 0, .int (3) 0, .ref 118, .bool true, .int (181) 0, .ref 119, .none, .ref 120, .ref 121, .ref 122, .int (335) 0, .int (100) 0, .str "/claim/cut.py" 336], #[]⟩) ::
  (nat_lit 124, fno "name_places" "name_places" (fnAt 17) (.none) (.none) (.none) (.str "vectorcove.index" 288) none (.ref 123) (.none) 3 0) ::
  (nat_lit 130, ⟨.type "code", none, .fields #[.str "extending_places" 338, .str "extending_places" 339, .str "/claim/cut.py" 340, .int (109) 0, .int (3) 0, .int (0) 0, .int (0) 0, .int (3) 0, .ref 125, .bool true, .int (181) 0, .ref 126, .none, .ref 127, .ref 128, .ref 129, .int (349) 0, .int (109) 0, .str "/claim/cut.py" 350], #[]⟩) ::
  (nat_lit 131, fno "extending_places" "extending_places" (fnAt 18) (.none) (.none) (.none) (.str "vectorcove.index" 288) none (.ref 130) (.none) 3 0) ::
  (nat_lit 137, ⟨.type "code", none, .fields #[.str "positions" 352, .str "positions" 353, .str "/claim/cut.py" 354, .int (123) 0, .int (4) 0, .int (0) 0, .int (0) 0, .int (3) 0, .ref 132, .bool true, .int (181) 0, .ref 133, .none, .ref 134, .ref 135, .ref 136, .int (360) 0, .int (123) 0, .str "/claim/cut.py" 361], #[]⟩) ::
  (nat_lit 138, fno "positions" "positions" (fnAt 19) (.none) (.none) (.none) (.str "vectorcove.index" 288) none (.ref 137) (.none) 3 0) ::
  (nat_lit 144, ⟨.type "code", none, .fields #[.str "axis" 363, .str "axis" 364, .str "/claim/cut.py" 365, .int (138) 0, .int (3) 0, .int (0) 0, .int (0) 0, .int (3) 0, .ref 139, .bool true, .int (181) 0, .ref 140, .none, .ref 141, .ref 142, .ref 143, .int (372) 0, .int (138) 0, .str "/claim/cut.py" 373], #[]⟩) ::
  (nat_lit 145, fno "axis" "axis" (fnAt 20) (.none) (.none) (.none) (.str "vectorcove.index" 288) none (.ref 144) (.none) 3 0) ::
  (nat_lit 151, ⟨.type "code", none, .fields #[.str "strides" 375, .str "strides" 376, .str "/claim/cut.py" 377, .int (150) 0, .int (1) 0, .int (0) 0, .int (0) 0, .int (3) 0, .ref 146, .bool true, .int (181) 0, .ref 147, .none, .ref 148, .ref 149, .ref 150, .int (382) 0, .int (150) 0, .str "/claim/cut.py" 383], #[]⟩) ::
  (nat_lit 152, fno "strides" "strides" (fnAt 21) (.none) (.none) (.none) (.str "vectorcove.index" 288) none (.ref 151) (.none) 3 0) ::
  (nat_lit 158, ⟨.type "code", none, .fields #[.str "is_matrix_index" 385, .str "is_matrix_index" 386, .str "/claim/cut.py" 387, .int (157) 0, .int (2) 0, .int (0) 0, .int (0) 0, .int (3) 0, .ref 153, .bool true, .int (181) 0, .ref 154, .none, .ref 155, .ref 156, .ref 157, .int (391) 0, .int (157) 0, .str "/claim/cut.py" 392], #[]⟩) ::
  (nat_lit 159, fno "is_matrix_index" "is_matrix_index" (fnAt 22) (.none) (.none) (.none) (.str "vectorcove.index" 288) none (.ref 158) (.none) 3 0) ::
  (nat_lit 165, ⟨.type "code", none, .fields #[.str "row_place" 394, .str "row_place" 395, .str "/claim/cut.py" 396, .int (162) 0, .int (2) 0, .int (0) 0, .int (0) 0, .int (3) 0, .ref 160, .bool true, .int (181) 0, .ref 161, .none, .ref 162, .ref 163, .ref 164, .int (403) 0, .int (162) 0, .str "/claim/cut.py" 404], #[]⟩) ::
  (nat_lit 166, fno "row_place" "row_place" (fnAt 23) (.none) (.none) (.none) (.str "vectorcove.index" 288) none (.ref 165) (.none) 3 0) ::
  (nat_lit 172, ⟨.type "code", none, .fields #[.str "named_subscripts" 406, .str "named_subscripts" 407, .str "/claim/cut.py" 408, .int (182) 0, .int (3) 0, .int (0) 0, .int (0) 0, .int (3) 0, .ref 167, .bool true, .int (181) 0, .ref 168, .none, .ref 169, .ref 170, .ref 171, .int (419) 0, .int (182) 0, .str "/claim/cut.py" 420], #[]⟩) ::
  (nat_lit 173, fno "named_subscripts" "named_subscripts" (fnAt 24) (.none) (.none) (.none) (.str "vectorcove.index" 288) none (.ref 172) (.none) 3 0) ::
  (nat_lit 174, ⟨.type "tuple", none, .seq #[.none] 0, #[]⟩) ::
  (nat_lit 178, ⟨.type "code", none, .fields #[.str "matrix_index" 422, .str "matrix_index" 423, .str "/claim/cut.py" 424, .int (199) 0, .int (3) 0, .int (0) 0, .int (0) 0, .int (3) 0, .ref 175, .bool true, .int (181) 0, .ref 176, .none, .none, .none, .ref 177, .int (425) 0, .int (199) 0, .str "/claim/cut.py" 426], #[]⟩) ::
  (nat_lit 179, fno "matrix_index" "matrix_index" (fnAt 25) (.ref 174) (.none) (.none) (.str "vectorcove.index" 288) none (.ref 178) (.none) 3 0) ::
  (nat_lit 192, ⟨.type "code", none, .fields #[.str "__init__" 442, .str "Null.__init__" 443, .str "/claim/cut.py" 444, .int (217) 0, .int (1) 0, .int (0) 0, .int (0) 0, .int (3) 0, .ref 187, .bool true, .int (181) 0, .ref 188, .none, .ref 189, .ref 190, .ref 191, .int (446) 0, .int (217) 0, .str "/claim/cut.py" 447], #[]⟩) ::
  (nat_lit 193, fno "__init__" "Null.__init__" (mtAt 27 0) (.none) (.none) (.none) (.str "vectorcove.values" 428) none (.ref 192) (.none) 3 0) ::
  (nat_lit 195, ⟨.type "dict", none, .dict #[ent P "__module__" 437 (.str "vectorcove.values" 428), ent P "__firstlineno__" 441 (.int (215) 440), ent P "__init__" 448 (.ref 193), ent P "__static_attributes__" 451 (.ref 194), ent P "__dict__" 453 (.ref 197), ent P "__weakref__" 455 (.ref 198), ent P "__doc__" 456 (.none)] 4, #[]⟩) ::
  (nat_lit 196, ⟨.type "type", none, Data.cls   { name := Str.ofString "Null", bases := [Value.type "object"], mro := [Value.ref 196, Value.type "object"], ns := 195,     qualname := Str.ofString "Null" }, #[none, none, some (.str "Null" 430), some (.str "Null" 438), some (.builtin "object.__new__"), some (.bool true)]⟩) ::
  (nat_lit 197, ⟨.type "getset_descriptor", none, .fields #[.str "__dict__" 452, .ref 196, .builtin "function.__dict__", .builtin "function.__dict__#set"], #[]⟩) ::
  (nat_lit 198, ⟨.type "getset_descriptor", none, .fields #[.str "__weakref__" 454, .ref 196, .builtin "ExceptionGroup.__weakref__", .none], #[]⟩) ::
  (nat_lit 213, ⟨.type "code", none, .fields #[.str "__init__" 471, .str "Missing.__init__" 472, .str "/claim/cut.py" 473, .int (222) 0, .int (1) 0, .int (0) 0, .int (0) 0, .int (3) 0, .ref 208, .bool true, .int (181) 0, .ref 209, .none, .ref 210, .ref 211, .ref 212, .int (475) 0, .int (222) 0, .str "/claim/cut.py" 476], #[]⟩) ::
  (nat_lit 214, fno "__init__" "Missing.__init__" (mtAt 28 0) (.none) (.none) (.none) (.str "vectorcove.values" 428) none (.ref 213) (.none) 3 0) ::
  (nat_lit 216, ⟨.type "dict", none, .dict #[ent P "__module__" 466 (.str "vectorcove.values" 428), ent P "__firstlineno__" 470 (.int (220) 469), ent P "__init__" 477 (.ref 214), ent P "__static_attributes__" 480 (.ref 215), ent P "__dict__" 482 (.ref 218), ent P "__weakref__" 484 (.ref 219), ent P "__doc__" 485 (.none)] 4, #[]⟩) ::
  (nat_lit 217, ⟨.type "type", none, Data.cls   { name := Str.ofString "Missing", bases := [Value.type "object"], mro := [Value.ref 217, Value.type "object"],     ns := 216, qualname := Str.ofString "Missing" }, #[none, none, some (.str "Missing" 459), some (.str "Missing" 467), some (.builtin "object.__new__"), some (.bool true)]⟩) ::
  (nat_lit 218, ⟨.type "getset_descriptor", none, .fields #[.str "__dict__" 481, .ref 217, .builtin "function.__dict__", .builtin "function.__dict__#set"], #[]⟩) ::
  (nat_lit 219, ⟨.type "getset_descriptor", none, .fields #[.str "__weakref__" 483, .ref 217, .builtin "ExceptionGroup.__weakref__", .none], #[]⟩) ::
  (nat_lit 229, ⟨.type "tuple", none, .seq #[.none] 0, #[]⟩) ::
  (nat_lit 235, ⟨.type "code", none, .fields #[.str "__init__" 500, .str "Vector.__init__" 501, .str "/claim/cut.py" 502, .int (227) 0, .int (4) 0, .int (0) 0, .int (0) 0, .int (3) 0, .ref 230, .bool true, .int (181) 0, .ref 231, .none, .ref 232, .ref 233, .ref 234, .int (507) 0, .int (227) 0, .str "/claim/cut.py" 508], #[]⟩) ::
  (nat_lit 236, fno "__init__" "Vector.__init__" (mtAt 29 0) (.ref 229) (.none) (.none) (.str "vectorcove.values" 428) none (.ref 235) (.none) 3 0) ::
  (nat_lit 242, ⟨.type "code", none, .fields #[.str "copy" 510, .str "Vector.copy" 511, .str "/claim/cut.py" 512, .int (234) 0, .int (1) 0, .int (0) 0, .int (0) 0, .int (3) 0, .ref 237, .bool true, .int (181) 0, .ref 238, .none, .ref 239, .ref 240, .ref 241, .int (514) 0, .int (234) 0, .str "/claim/cut.py" 515], #[]⟩) ::
  (nat_lit 243, fno "copy" "Vector.copy" (mtAt 29 1) (.none) (.none) (.none) (.str "vectorcove.values" 428) none (.ref 242) (.none) 3 0) ::
  (nat_lit 245, ⟨.type "dict", none, .dict #[ent P "__module__" 495 (.str "vectorcove.values" 428), ent P "__firstlineno__" 499 (.int (225) 498), ent P "__init__" 509 (.ref 236), ent P "copy" 516 (.ref 243), ent P "__static_attributes__" 522 (.ref 244), ent P "__dict__" 524 (.ref 247), ent P "__weakref__" 526 (.ref 248), ent P "__doc__" 527 (.none)] 4, #[]⟩) ::
  (nat_lit 246, ⟨.type "type", none, Data.cls   { name := Str.ofString "Vector", bases := [Value.type "object"], mro := [Value.ref 246, Value.type "object"],     ns := 245, qualname := Str.ofString "Vector" }, #[none, none, some (.str "Vector" 488), some (.str "Vector" 496), some (.builtin "object.__new__"), some (.bool true)]⟩) ::
  (nat_lit 247, ⟨.type "getset_descriptor", none, .fields #[.str "__dict__" 523, .ref 246, .builtin "function.__dict__", .builtin "function.__dict__#set"], #[]⟩) ::
  (nat_lit 248, ⟨.type "getset_descriptor", none, .fields #[.str "__weakref__" 525, .ref 246, .builtin "ExceptionGroup.__weakref__", .none], #[]⟩) ::
  (nat_lit 258, ⟨.type "tuple", none, .seq #[.none] 0, #[]⟩) ::
  (nat_lit 264, ⟨.type "code", none, .fields #[.str "__init__" 542, .str "Call.__init__" 543, .str "/claim/cut.py" 544, .int (238) 0, .int (4) 0, .int (0) 0, .int (0) 0, .int (3) 0, .ref 259, .bool true, .int (181) 0, .ref 260, .none, .ref 261, .ref 262, .ref 263, .int (549) 0, .int (238) 0, .str "/claim/cut.py" 550], #[]⟩) ::
  (nat_lit 265, fno "__init__" "Call.__init__" (mtAt 30 0) (.ref 258) (.none) (.none) (.str "vectorcove.values" 428) none (.ref 264) (.none) 3 0) ::
  (nat_lit 267, ⟨.type "dict", none, .dict #[ent P "__module__" 537 (.str "vectorcove.values" 428), ent P "__firstlineno__" 541 (.int (236) 540), ent P "__init__" 551 (.ref 265), ent P "__static_attributes__" 557 (.ref 266), ent P "__dict__" 559 (.ref 269), ent P "__weakref__" 561 (.ref 270), ent P "__doc__" 562 (.none)] 4, #[]⟩) ::
  (nat_lit 268, ⟨.type "type", none, Data.cls   { name := Str.ofString "Call", bases := [Value.type "object"], mro := [Value.ref 268, Value.type "object"], ns := 267,     qualname := Str.ofString "Call" }, #[none, none, some (.str "Call" 530), some (.str "Call" 538), some (.builtin "object.__new__"), some (.bool true)]⟩) ::
  (nat_lit 269, ⟨.type "getset_descriptor", none, .fields #[.str "__dict__" 558, .ref 268, .builtin "function.__dict__", .builtin "function.__dict__#set"], #[]⟩) ::
  (nat_lit 270, ⟨.type "getset_descriptor", none, .fields #[.str "__weakref__" 560, .ref 268, .builtin "ExceptionGroup.__weakref__", .none], #[]⟩) ::
  (nat_lit 278, ⟨.type "code", none, .fields #[.str "integer" 565, .str "integer" 566, .str "/claim/cut.py" 567, .int (244) 0, .int (1) 0, .int (0) 0, .int (0) 0, .int (3) 0, .ref 273, .bool true, .int (181) 0, .ref 274, .none, .ref 275, .ref 276, .ref 277, .int (569) 0, .int (244) 0, .str "/claim/cut.py" 570], #[]⟩) ::
  (nat_lit 279, fno "integer" "integer" (fnAt 31) (.none) (.none) (.none) (.str "vectorcove.values" 428) none (.ref 278) (.none) 3 0) ::
  (nat_lit 285, ⟨.type "code", none, .fields #[.str "character" 572, .str "character" 573, .str "/claim/cut.py" 574, .int (246) 0, .int (1) 0, .int (0) 0, .int (0) 0, .int (3) 0, .ref 280, .bool true, .int (181) 0, .ref 281, .none, .ref 282, .ref 283, .ref 284, .int (576) 0, .int (246) 0, .str "/claim/cut.py" 577], #[]⟩) ::
  (nat_lit 286, fno "character" "character" (fnAt 32) (.none) (.none) (.none) (.str "vectorcove.values" 428) none (.ref 285) (.none) 3 0) ::
  (nat_lit 292, ⟨.type "code", none, .fields #[.str "named" 579, .str "named" 580, .str "/claim/cut.py" 581, .int (248) 0, .int (2) 0, .int (0) 0, .int (0) 0, .int (3) 0, .ref 287, .bool true, .int (181) 0, .ref 288, .none, .ref 289, .ref 290, .ref 291, .int (584) 0, .int (248) 0, .str "/claim/cut.py" 585], #[]⟩) ::
  (nat_lit 293, fno "named" "named" (fnAt 33) (.none) (.none) (.none) (.str "vectorcove.values" 428) none (.ref 292) (.none) 3 0) ::
  (nat_lit 299, ⟨.type "code", none, .fields #[.str "is_vector" 587, .str "is_vector" 588, .str "/claim/cut.py" 589, .int (252) 0, .int (1) 0, .int (0) 0, .int (0) 0, .int (3) 0, .ref 294, .bool true, .int (181) 0, .ref 295, .none, .ref 296, .ref 297, .ref 298, .int (591) 0, .int (252) 0, .str "/claim/cut.py" 592], #[]⟩) ::
  (nat_lit 300, fno "is_vector" "is_vector" (fnAt 34) (.none) (.none) (.none) (.str "vectorcove.values" 428) none (.ref 299) (.none) 3 0) ::
  (nat_lit 306, ⟨.type "code", none, .fields #[.str "share" 594, .str "share" 595, .str "/claim/cut.py" 596, .int (254) 0, .int (1) 0, .int (0) 0, .int (0) 0, .int (3) 0, .ref 301, .bool true, .int (181) 0, .ref 302, .none, .ref 303, .ref 304, .ref 305, .int (598) 0, .int (254) 0, .str "/claim/cut.py" 599], #[]⟩) ::
  (nat_lit 307, fno "share" "share" (fnAt 35) (.none) (.none) (.none) (.str "vectorcove.values" 428) none (.ref 306) (.none) 3 0) ::
  (nat_lit 313, ⟨.type "code", none, .fields #[.str "lacking_item" 603, .str "lacking_item" 604, .str "/claim/cut.py" 605, .int (259) 0, .int (1) 0, .int (0) 0, .int (0) 0, .int (3) 0, .ref 308, .bool true, .int (181) 0, .ref 309, .none, .ref 310, .ref 311, .ref 312, .int (607) 0, .int (259) 0, .str "/claim/cut.py" 608], #[]⟩) ::
  (nat_lit 314, fno "lacking_item" "lacking_item" (fnAt 37) (.none) (.none) (.none) (.str "vectorcove.subset" 601) none (.ref 313) (.none) 3 0) ::
  (nat_lit 320, ⟨.type "code", none, .fields #[.str "refuse_subset" 610, .str "refuse_subset" 611, .str "/claim/cut.py" 612, .int (263) 0, .int (1) 0, .int (0) 0, .int (0) 0, .int (3) 0, .ref 315, .bool true, .int (181) 0, .ref 316, .none, .ref 317, .ref 318, .ref 319, .int (614) 0, .int (263) 0, .str "/claim/cut.py" 615], #[]⟩) ::
  (nat_lit 321, fno "refuse_subset" "refuse_subset" (fnAt 38) (.none) (.none) (.none) (.str "vectorcove.subset" 601) none (.ref 320) (.none) 3 0) ::
  (nat_lit 327, ⟨.type "code", none, .fields #[.str "result_kind" 617, .str "result_kind" 618, .str "/claim/cut.py" 619, .int (265) 0, .int (1) 0, .int (0) 0, .int (0) 0, .int (3) 0, .ref 322, .bool true, .int (181) 0, .ref 323, .none, .ref 324, .ref 325, .ref 326, .int (621) 0, .int (265) 0, .str "/claim/cut.py" 622], #[]⟩) ::
  (nat_lit 328, fno "result_kind" "result_kind" (fnAt 39) (.none) (.none) (.none) (.str "vectorcove.subset" 601) none (.ref 327) (.none) 3 0) ::
  (nat_lit 334, ⟨.type "code", none, .fields #[.str "items_at" 624, .str "items_at" 625, .str "/claim/cut.py" 626, .int (269) 0, .int (2) 0, .int (0) 0, .int (0) 0, .int (3) 0, .ref 329, .bool true, .int (181) 0, .ref 330, .none, .ref 331, .ref 332, .ref 333, .int (632) 0, .int (269) 0, .str "/claim/cut.py" 633], #[]⟩) ::
  (nat_lit 335, fno "items_at" "items_at" (fnAt 40) (.none) (.none) (.none) (.str "vectorcove.subset" 601) none (.ref 334) (.none) 3 0) ::
  (nat_lit 341, ⟨.type "code", none, .fields #[.str "names_at" 635, .str "names_at" 636, .str "/claim/cut.py" 637, .int (278) 0, .int (2) 0, .int (0) 0, .int (0) 0, .int (3) 0, .ref 336, .bool true, .int (181) 0, .ref 337, .none, .ref 338, .ref 339, .ref 340, .int (642) 0, .int (278) 0, .str "/claim/cut.py" 643], #[]⟩) ::
  (nat_lit 342, fno "names_at" "names_at" (fnAt 41) (.none) (.none) (.none) (.str "vectorcove.subset" 601) none (.ref 341) (.none) 3 0) ::
  (nat_lit 348, ⟨.type "code", none, .fields #[.str "subset_vector" 645, .str "subset_vector" 646, .str "/claim/cut.py" 647, .int (286) 0, .int (2) 0, .int (0) 0, .int (0) 0, .int (3) 0, .ref 343, .bool true, .int (181) 0, .ref 344, .none, .ref 345, .ref 346, .ref 347, .int (653) 0, .int (286) 0, .str "/claim/cut.py" 654], #[]⟩) ::
  (nat_lit 349, fno "subset_vector" "subset_vector" (fnAt 42) (.none) (.none) (.none) (.str "vectorcove.subset" 601) none (.ref 348) (.none) 3 0) ::
  (nat_lit 355, ⟨.type "code", none, .fields #[.str "array_places" 656, .str "array_places" 657, .str "/claim/cut.py" 658, .int (293) 0, .int (2) 0, .int (0) 0, .int (0) 0, .int (3) 0, .ref 350, .bool true, .int (181) 0, .ref 351, .none, .ref 352, .ref 353, .ref 354, .int (667) 0, .int (293) 0, .str "/claim/cut.py" 668], #[]⟩) ::
  (nat_lit 356, fno "array_places" "array_places" (fnAt 43) (.none) (.none) (.none) (.str "vectorcove.subset" 601) none (.ref 355) (.none) 3 0) ::
  (nat_lit 362, ⟨.type "code", none, .fields #[.str "array_axes" 670, .str "array_axes" 671, .str "/claim/cut.py" 672, .int (306) 0, .int (3) 0, .int (0) 0, .int (0) 0, .int (3) 0, .ref 357, .bool true, .int (181) 0, .ref 358, .none, .ref 359, .ref 360, .ref 361, .int (680) 0, .int (306) 0, .str "/claim/cut.py" 681], #[]⟩) ::
  (nat_lit 363, fno "array_axes" "array_axes" (fnAt 44) (.none) (.none) (.none) (.str "vectorcove.subset" 601) none (.ref 362) (.none) 3 0) ::
  (nat_lit 369, ⟨.type "code", none, .fields #[.str "heads_of_dimnames" 683, .str "heads_of_dimnames" 684, .str "/claim/cut.py" 685, .int (315) 0, .int (1) 0, .int (0) 0, .int (0) 0, .int (3) 0, .ref 364, .bool true, .int (181) 0, .ref 365, .none, .ref 366, .ref 367, .ref 368, .int (688) 0, .int (315) 0, .str "/claim/cut.py" 689], #[]⟩) ::
  (nat_lit 370, fno "heads_of_dimnames" "heads_of_dimnames" (fnAt 45) (.none) (.none) (.none) (.str "vectorcove.subset" 601) none (.ref 369) (.none) 3 0) ::
  (nat_lit 376, ⟨.type "code", none, .fields #[.str "picked_dimnames" 691, .str "picked_dimnames" 692, .str "/claim/cut.py" 693, .int (320) 0, .int (2) 0, .int (0) 0, .int (0) 0, .int (3) 0, .ref 371, .bool true, .int (181) 0, .ref 372, .none, .ref 373, .ref 374, .ref 375, .int (699) 0, .int (320) 0, .str "/claim/cut.py" 700], #[]⟩) ::
  (nat_lit 377, fno "picked_dimnames" "picked_dimnames" (fnAt 46) (.none) (.none) (.none) (.str "vectorcove.subset" 601) none (.ref 376) (.none) 3 0) ::
  (nat_lit 383, ⟨.type "code", none, .fields #[.str "dimnames_value" 702, .str "dimnames_value" 703, .str "/claim/cut.py" 704, .int (331) 0, .int (2) 0, .int (0) 0, .int (0) 0, .int (3) 0, .ref 378, .bool true, .int (181) 0, .ref 379, .none, .ref 380, .ref 381, .ref 382, .int (710) 0, .int (331) 0, .str "/claim/cut.py" 711], #[]⟩) ::
  (nat_lit 384, fno "dimnames_value" "dimnames_value" (fnAt 47) (.none) (.none) (.none) (.str "vectorcove.subset" 601) none (.ref 383) (.none) 3 0) ::
  (nat_lit 390, ⟨.type "code", none, .fields #[.str "put_shape" 713, .str "put_shape" 714, .str "/claim/cut.py" 715, .int (343) 0, .int (4) 0, .int (0) 0, .int (0) 0, .int (3) 0, .ref 385, .bool true, .int (181) 0, .ref 386, .none, .ref 387, .ref 388, .ref 389, .int (721) 0, .int (343) 0, .str "/claim/cut.py" 722], #[]⟩) ::
  (nat_lit 391, fno "put_shape" "put_shape" (fnAt 48) (.none) (.none) (.none) (.str "vectorcove.subset" 601) none (.ref 390) (.none) 3 0) ::
  (nat_lit 397, ⟨.type "code", none, .fields #[.str "only_names" 724, .str "only_names" 725, .str "/claim/cut.py" 726, .int (349) 0, .int (1) 0, .int (0) 0, .int (0) 0, .int (3) 0, .ref 392, .bool true, .int (181) 0, .ref 393, .none, .ref 394, .ref 395, .ref 396, .int (730) 0, .int (349) 0, .str "/claim/cut.py" 731], #[]⟩) ::
  (nat_lit 398, fno "only_names" "only_names" (fnAt 49) (.none) (.none) (.none) (.str "vectorcove.subset" 601) none (.ref 397) (.none) 3 0) ::
  (nat_lit 402, ⟨.type "code", none, .fields #[.str "put_dropped" 733, .str "put_dropped" 734, .str "/claim/cut.py" 735, .int (357) 0, .int (4) 0, .int (0) 0, .int (0) 0, .int (3) 0, .ref 399, .bool true, .int (181) 0, .ref 400, .none, .none, .none, .ref 401, .int (736) 0, .int (357) 0, .str "/claim/cut.py" 737], #[]⟩) ::
  (nat_lit 403, fno "put_dropped" "put_dropped" (fnAt 50) (.none) (.none) (.none) (.str "vectorcove.subset" 601) none (.ref 402) (.none) 3 0) ::
  (nat_lit 407, ⟨.type "code", none, .fields #[.str "subset_array" 739, .str "subset_array" 740, .str "/claim/cut.py" 741, .int (372) 0, .int (3) 0, .int (0) 0, .int (0) 0, .int (3) 0, .ref 404, .bool true, .int (181) 0, .ref 405, .none, .none, .none, .ref 406, .int (742) 0, .int (372) 0, .str "/claim/cut.py" 743], #[]⟩) ::
  (nat_lit 408, fno "subset_array" "subset_array" (fnAt 51) (.none) (.none) (.none) (.str "vectorcove.subset" 601) none (.ref 407) (.none) 3 0) ::
  (nat_lit 414, ⟨.type "code", none, .fields #[.str "subset_row" 745, .str "subset_row" 746, .str "/claim/cut.py" 747, .int (383) 0, .int (3) 0, .int (0) 0, .int (0) 0, .int (3) 0, .ref 409, .bool true, .int (181) 0, .ref 410, .none, .ref 411, .ref 412, .ref 413, .int (754) 0, .int (383) 0, .str "/claim/cut.py" 755], #[]⟩) ::
  (nat_lit 415, fno "subset_row" "subset_row" (fnAt 52) (.none) (.none) (.none) (.str "vectorcove.subset" 601) none (.ref 414) (.none) 3 0) ::
  (nat_lit 419, ⟨.type "code", none, .fields #[.str "subset_call" 757, .str "subset_call" 758, .str "/claim/cut.py" 759, .int (393) 0, .int (2) 0, .int (0) 0, .int (0) 0, .int (3) 0, .ref 416, .bool true, .int (181) 0, .ref 417, .none, .none, .none, .ref 418, .int (760) 0, .int (393) 0, .str "/claim/cut.py" 761], #[]⟩) ::
  (nat_lit 420, fno "subset_call" "subset_call" (fnAt 53) (.none) (.none) (.none) (.str "vectorcove.subset" 601) none (.ref 419) (.none) 3 0) ::
  (nat_lit 426, ⟨.type "code", none, .fields #[.str "subset_any" 763, .str "subset_any" 764, .str "/claim/cut.py" 765, .int (408) 0, .int (4) 0, .int (0) 0, .int (0) 0, .int (3) 0, .ref 421, .bool true, .int (181) 0, .ref 422, .none, .ref 423, .ref 424, .ref 425, .int (772) 0, .int (408) 0, .str "/claim/cut.py" 773], #[]⟩) ::
  (nat_lit 427, fno "subset_any" "subset_any" (fnAt 54) (.none) (.none) (.none) (.str "vectorcove.subset" 601) none (.ref 426) (.none) 3 0) ::
  (nat_lit 433, ⟨.type "code", none, .fields #[.str "_law_row" 777, .str "_law_row" 778, .str "/claim/cut.py" 779, .int (431) 0, .int (1) 0, .int (0) 0, .int (0) 0, .int (3) 0, .ref 428, .bool true, .int (181) 0, .ref 429, .none, .ref 430, .ref 431, .ref 432, .int (785) 0, .int (431) 0, .str "/claim/cut.py" 786], #[]⟩) ::
  (nat_lit 434, fno "_law_row" "_law_row" (fnAt 56) (.none) (.none) (.none) (.str "law_pq1441_01" 775) none (.ref 433) (.none) 3 0) ::
  (nat_lit 440, ⟨.type "code", none, .fields #[.str "_law_next" 788, .str "_law_next" 789, .str "/claim/cut.py" 790, .int (444) 0, .int (1) 0, .int (0) 0, .int (0) 0, .int (3) 0, .ref 435, .bool true, .int (181) 0, .ref 436, .none, .ref 437, .ref 438, .ref 439, .int (792) 0, .int (444) 0, .str "/claim/cut.py" 793], #[]⟩) ::
  (nat_lit 441, fno "_law_next" "_law_next" (fnAt 57) (.none) (.none) (.none) (.str "law_pq1441_01" 775) none (.ref 440) (.none) 3 0) ::
  (nat_lit 447, ⟨.type "code", none, .fields #[.str "_law_reduced" 795, .str "_law_reduced" 796, .str "/claim/cut.py" 797, .int (446) 0, .int (2) 0, .int (0) 0, .int (0) 0, .int (3) 0, .ref 442, .bool true, .int (181) 0, .ref 443, .none, .ref 444, .ref 445, .ref 446, .int (802) 0, .int (446) 0, .str "/claim/cut.py" 803], #[]⟩) ::
  (nat_lit 448, fno "_law_reduced" "_law_reduced" (fnAt 58) (.none) (.none) (.none) (.str "law_pq1441_01" 775) none (.ref 447) (.none) 3 0) ::
  (nat_lit 454, ⟨.type "code", none, .fields #[.str "_law_text" 805, .str "_law_text" 806, .str "/claim/cut.py" 807, .int (452) 0, .int (1) 0, .int (0) 0, .int (0) 0, .int (3) 0, .ref 449, .bool true, .int (181) 0, .ref 450, .none, .ref 451, .ref 452, .ref 453, .int (810) 0, .int (452) 0, .str "/claim/cut.py" 811], #[]⟩) ::
  (nat_lit 455, fno "_law_text" "_law_text" (fnAt 59) (.none) (.none) (.none) (.str "law_pq1441_01" 775) none (.ref 454) (.none) 3 0) ::
  (nat_lit 461, ⟨.type "code", none, .fields #[.str "_law_number" 813, .str "_law_number" 814, .str "/claim/cut.py" 815, .int (455) 0, .int (1) 0, .int (0) 0, .int (0) 0, .int (3) 0, .ref 456, .bool true, .int (181) 0, .ref 457, .none, .ref 458, .ref 459, .ref 460, .int (819) 0, .int (455) 0, .str "/claim/cut.py" 820], #[]⟩) ::
  (nat_lit 462, fno "_law_number" "_law_number" (fnAt 60) (.none) (.none) (.none) (.str "law_pq1441_01" 775) none (.ref 461) (.none) 3 0) ::
  (nat_lit 466, ⟨.type "code", none, .fields #[.str "_law_index" 822, .str "_law_index" 823, .str "/claim/cut.py" 824, .int (465) 0, .int (1) 0, .int (0) 0, .int (0) 0, .int (3) 0, .ref 463, .bool true, .int (181) 0, .ref 464, .none, .none, .none, .ref 465, .int (825) 0, .int (465) 0, .str "/claim/cut.py" 826], #[]⟩) ::
  (nat_lit 467, fno "_law_index" "_law_index" (fnAt 61) (.none) (.none) (.none) (.str "law_pq1441_01" 775) none (.ref 466) (.none) 3 0) ::
  (nat_lit 473, ⟨.type "code", none, .fields #[.str "_law_cut" 828, .str "_law_cut" 829, .str "/claim/cut.py" 830, .int (482) 0, .int (2) 0, .int (0) 0, .int (0) 0, .int (3) 0, .ref 468, .bool true, .int (181) 0, .ref 469, .none, .ref 470, .ref 471, .ref 472, .int (835) 0, .int (482) 0, .str "/claim/cut.py" 836], #[]⟩) ::
  (nat_lit 474, fno "_law_cut" "_law_cut" (fnAt 62) (.none) (.none) (.none) (.str "law_pq1441_01" 775) none (.ref 473) (.none) 3 0) ::
  (nat_lit 478, ⟨.type "code", none, .fields #[.str "_law_due" 838, .str "_law_due" 839, .str "/claim/cut.py" 840, .int (492) 0, .int (4) 0, .int (0) 0, .int (0) 0, .int (3) 0, .ref 475, .bool true, .int (181) 0, .ref 476, .none, .none, .none, .ref 477, .int (841) 0, .int (492) 0, .str "/claim/cut.py" 842], #[]⟩) ::
  (nat_lit 479, fno "_law_due" "_law_due" (fnAt 63) (.none) (.none) (.none) (.str "law_pq1441_01" 775) none (.ref 478) (.none) 3 0) ::
  (nat_lit 485, ⟨.type "code", none, .fields #[.str "_law_item" 844, .str "_law_item" 845, .str "/claim/cut.py" 846, .int (531) 0, .int (2) 0, .int (0) 0, .int (0) 0, .int (3) 0, .ref 480, .bool true, .int (181) 0, .ref 481, .none, .ref 482, .ref 483, .ref 484, .int (850) 0, .int (531) 0, .str "/claim/cut.py" 851], #[]⟩) ::
  (nat_lit 486, fno "_law_item" "_law_item" (fnAt 64) (.none) (.none) (.none) (.str "law_pq1441_01" 775) none (.ref 485) (.none) 3 0) ::
  (nat_lit 490, ⟨.type "code", none, .fields #[.str "_law_view" 853, .str "_law_view" 854, .str "/claim/cut.py" 855, .int (544) 0, .int (1) 0, .int (0) 0, .int (0) 0, .int (3) 0, .ref 487, .bool true, .int (181) 0, .ref 488, .none, .none, .none, .ref 489, .int (856) 0, .int (544) 0, .str "/claim/cut.py" 857], #[]⟩) ::
  (nat_lit 491, fno "_law_view" "_law_view" (fnAt 65) (.none) (.none) (.none) (.str "law_pq1441_01" 775) none (.ref 490) (.none) 3 0) ::
  (nat_lit 497, ⟨.type "code", none, .fields #[.str "_law_kept" 859, .str "_law_kept" 860, .str "/claim/cut.py" 861, .int (555) 0, .int (1) 0, .int (0) 0, .int (0) 0, .int (3) 0, .ref 492, .bool true, .int (181) 0, .ref 493, .none, .ref 494, .ref 495, .ref 496, .int (864) 0, .int (555) 0, .str "/claim/cut.py" 865], #[]⟩) ::
  (nat_lit 498, fno "_law_kept" "_law_kept" (fnAt 66) (.none) (.none) (.none) (.str "law_pq1441_01" 775) none (.ref 497) (.none) 3 0) ::
  (nat_lit 502, ⟨.type "code", none, .fields #[.str "_law_vector" 867, .str "_law_vector" 868, .str "/claim/cut.py" 869, .int (560) 0, .int (1) 0, .int (0) 0, .int (0) 0, .int (3) 0, .ref 499, .bool true, .int (181) 0, .ref 500, .none, .none, .none, .ref 501, .int (870) 0, .int (560) 0, .str "/claim/cut.py" 871], #[]⟩) ::
  (nat_lit 503, fno "_law_vector" "_law_vector" (fnAt 67) (.none) (.none) (.none) (.str "law_pq1441_01" 775) none (.ref 502) (.none) 3 0) ::
  (nat_lit 507, ⟨.type "code", none, .fields #[.str "law" 873, .str "law" 874, .str "/claim/cut.py" 875, .int (574) 0, .int (1) 0, .int (0) 0, .int (0) 0, .int (3) 0, .ref 504, .bool true, .int (181) 0, .ref 505, .none, .none, .none, .ref 506, .int (876) 0, .int (574) 0, .str "/claim/cut.py" 877], #[]⟩) ::
  (nat_lit 508, fno "law" "law" (fnAt 68) (.none) (.none) (.none) (.str "law_pq1441_01" 775) none (.ref 507) (.none) 3 0) :: []
end Mine

end
section
open PySem PySem.W PySem.Calls PyProof.Rows PySem.Spec
set_option Elab.async false
set_option maxRecDepth 100000
set_option maxHeartbeats 8000000
namespace Mine
theorem at_21 (P : Params) : (frag P).lookup 21 = some (fno "_wall" "_wall" (fnAt 0) (.none) (.none) (.none) (.str "__main__" 164) none (.ref 20) (.none) 3 0) := by kernel_rfl
theorem at_28 (P : Params) : (frag P).lookup 28 = some (fno "get_attr" "get_attr" (fnAt 2) (.none) (.none) (.none) (.str "vectorcove.attrs" 194) none (.ref 27) (.none) 3 0) := by kernel_rfl
theorem at_33 (P : Params) : (frag P).lookup 33 = some (fno "names_of" "names_of" (fnAt 3) (.none) (.none) (.none) (.str "vectorcove.attrs" 194) none (.ref 32) (.none) 3 0) := by kernel_rfl
theorem at_40 (P : Params) : (frag P).lookup 40 = some (fno "dim_of" "dim_of" (fnAt 4) (.none) (.none) (.none) (.str "vectorcove.attrs" 194) none (.ref 39) (.none) 3 0) := by kernel_rfl
theorem at_45 (P : Params) : (frag P).lookup 45 = some (fno "dimnames_of" "dimnames_of" (fnAt 5) (.none) (.none) (.none) (.str "vectorcove.attrs" 194) none (.ref 44) (.none) 3 0) := by kernel_rfl
theorem at_54 (P : Params) : (frag P).lookup 54 = some (⟨.type "dict", none, .dict #[ent P "__module__" 233 (.str "vectorcove.errors" 224), ent P "__firstlineno__" 237 (.int (36) 236), ent P "__static_attributes__" 238 (.ref 53), ent P "__weakref__" 240 (.ref 56), ent P "__doc__" 241 (.none)] 3, #[]⟩) := by kernel_rfl
theorem at_55 (P : Params) : (frag P).lookup 55 = some (⟨.type "type", none, Data.cls   { name := Str.ofString "CoveError", bases := [Value.type "Exception"],     mro := [Value.ref 55, Value.type "Exception", Value.type "BaseException", Value.type "object"], ns := 54,     qualname := Str.ofString "CoveError", subclasses := [Value.ref 75] }, #[some (.ref 46), none, some (.str "CoveError" 226), some (.str "CoveError" 234), some (.builtin "Exception.__new__"), some (.bool true)]⟩) := by kernel_rfl
theorem at_72 (P : Params) : (frag P).lookup 72 = some (fno "__init__" "Refusal.__init__" (mtAt 8 0) (.none) (.none) (.none) (.str "vectorcove.errors" 224) none (.ref 71) (.none) 3 0) := by kernel_rfl
theorem at_75 (P : Params) : (frag P).lookup 75 = some (⟨.type "type", none, Data.cls   { name := Str.ofString "Refusal", bases := [Value.ref 55],     mro := [Value.ref 75, Value.ref 55, Value.type "Exception", Value.type "BaseException", Value.type "object"],     ns := 74, qualname := Str.ofString "Refusal" }, #[some (.ref 59), none, some (.str "Refusal" 246), some (.str "Refusal" 254), some (.builtin "Exception.__new__"), some (.bool true)]⟩) := by kernel_rfl
theorem at_84 (P : Params) : (frag P).lookup 84 = some (fno "is_finite" "is_finite" (fnAt 10) (.none) (.none) (.none) (.str "vectorcove.rational" 271) none (.ref 83) (.none) 3 0) := by kernel_rfl
theorem at_91 (P : Params) : (frag P).lookup 91 = some (fno "to_whole" "to_whole" (fnAt 11) (.none) (.none) (.none) (.str "vectorcove.rational" 271) none (.ref 90) (.none) 3 0) := by kernel_rfl
theorem at_98 (P : Params) : (frag P).lookup 98 = some (fno "whole_subscripts" "whole_subscripts" (fnAt 13) (.none) (.none) (.none) (.str "vectorcove.index" 288) none (.ref 97) (.none) 3 0) := by kernel_rfl
theorem at_105 (P : Params) : (frag P).lookup 105 = some (fno "logical_places" "logical_places" (fnAt 14) (.none) (.none) (.none) (.str "vectorcove.index" 288) none (.ref 104) (.none) 3 0) := by kernel_rfl
theorem at_110 (P : Params) : (frag P).lookup 110 = some (fno "whole_places" "whole_places" (fnAt 15) (.none) (.none) (.none) (.str "vectorcove.index" 288) none (.ref 109) (.none) 3 0) := by kernel_rfl
theorem at_117 (P : Params) : (frag P).lookup 117 = some (fno "first_places" "first_places" (fnAt 16) (.none) (.none) (.none) (.str "vectorcove.index" 288) none (.ref 116) (.none) 3 0) := by kernel_rfl
theorem at_124 (P : Params) : (frag P).lookup 124 = some (fno "name_places" "name_places" (fnAt 17) (.none) (.none) (.none) (.str "vectorcove.index" 288) none (.ref 123) (.none) 3 0) := by kernel_rfl
theorem at_131 (P : Params) : (frag P).lookup 131 = some (fno "extending_places" "extending_places" (fnAt 18) (.none) (.none) (.none) (.str "vectorcove.index" 288) none (.ref 130) (.none) 3 0) := by kernel_rfl
theorem at_138 (P : Params) : (frag P).lookup 138 = some (fno "positions" "positions" (fnAt 19) (.none) (.none) (.none) (.str "vectorcove.index" 288) none (.ref 137) (.none) 3 0) := by kernel_rfl
theorem at_145 (P : Params) : (frag P).lookup 145 = some (fno "axis" "axis" (fnAt 20) (.none) (.none) (.none) (.str "vectorcove.index" 288) none (.ref 144) (.none) 3 0) := by kernel_rfl
theorem at_152 (P : Params) : (frag P).lookup 152 = some (fno "strides" "strides" (fnAt 21) (.none) (.none) (.none) (.str "vectorcove.index" 288) none (.ref 151) (.none) 3 0) := by kernel_rfl
theorem at_159 (P : Params) : (frag P).lookup 159 = some (fno "is_matrix_index" "is_matrix_index" (fnAt 22) (.none) (.none) (.none) (.str "vectorcove.index" 288) none (.ref 158) (.none) 3 0) := by kernel_rfl
theorem at_166 (P : Params) : (frag P).lookup 166 = some (fno "row_place" "row_place" (fnAt 23) (.none) (.none) (.none) (.str "vectorcove.index" 288) none (.ref 165) (.none) 3 0) := by kernel_rfl
theorem at_173 (P : Params) : (frag P).lookup 173 = some (fno "named_subscripts" "named_subscripts" (fnAt 24) (.none) (.none) (.none) (.str "vectorcove.index" 288) none (.ref 172) (.none) 3 0) := by kernel_rfl
theorem at_174 (P : Params) : (frag P).lookup 174 = some (⟨.type "tuple", none, .seq #[.none] 0, #[]⟩) := by kernel_rfl
theorem at_179 (P : Params) : (frag P).lookup 179 = some (fno "matrix_index" "matrix_index" (fnAt 25) (.ref 174) (.none) (.none) (.str "vectorcove.index" 288) none (.ref 178) (.none) 3 0) := by kernel_rfl
theorem at_193 (P : Params) : (frag P).lookup 193 = some (fno "__init__" "Null.__init__" (mtAt 27 0) (.none) (.none) (.none) (.str "vectorcove.values" 428) none (.ref 192) (.none) 3 0) := by kernel_rfl
theorem at_214 (P : Params) : (frag P).lookup 214 = some (fno "__init__" "Missing.__init__" (mtAt 28 0) (.none) (.none) (.none) (.str "vectorcove.values" 428) none (.ref 213) (.none) 3 0) := by kernel_rfl
theorem at_229 (P : Params) : (frag P).lookup 229 = some (⟨.type "tuple", none, .seq #[.none] 0, #[]⟩) := by kernel_rfl
theorem at_236 (P : Params) : (frag P).lookup 236 = some (fno "__init__" "Vector.__init__" (mtAt 29 0) (.ref 229) (.none) (.none) (.str "vectorcove.values" 428) none (.ref 235) (.none) 3 0) := by kernel_rfl
theorem at_243 (P : Params) : (frag P).lookup 243 = some (fno "copy" "Vector.copy" (mtAt 29 1) (.none) (.none) (.none) (.str "vectorcove.values" 428) none (.ref 242) (.none) 3 0) := by kernel_rfl
theorem at_258 (P : Params) : (frag P).lookup 258 = some (⟨.type "tuple", none, .seq #[.none] 0, #[]⟩) := by kernel_rfl
theorem at_265 (P : Params) : (frag P).lookup 265 = some (fno "__init__" "Call.__init__" (mtAt 30 0) (.ref 258) (.none) (.none) (.str "vectorcove.values" 428) none (.ref 264) (.none) 3 0) := by kernel_rfl
theorem at_279 (P : Params) : (frag P).lookup 279 = some (fno "integer" "integer" (fnAt 31) (.none) (.none) (.none) (.str "vectorcove.values" 428) none (.ref 278) (.none) 3 0) := by kernel_rfl
theorem at_286 (P : Params) : (frag P).lookup 286 = some (fno "character" "character" (fnAt 32) (.none) (.none) (.none) (.str "vectorcove.values" 428) none (.ref 285) (.none) 3 0) := by kernel_rfl
theorem at_293 (P : Params) : (frag P).lookup 293 = some (fno "named" "named" (fnAt 33) (.none) (.none) (.none) (.str "vectorcove.values" 428) none (.ref 292) (.none) 3 0) := by kernel_rfl
theorem at_300 (P : Params) : (frag P).lookup 300 = some (fno "is_vector" "is_vector" (fnAt 34) (.none) (.none) (.none) (.str "vectorcove.values" 428) none (.ref 299) (.none) 3 0) := by kernel_rfl
theorem at_307 (P : Params) : (frag P).lookup 307 = some (fno "share" "share" (fnAt 35) (.none) (.none) (.none) (.str "vectorcove.values" 428) none (.ref 306) (.none) 3 0) := by kernel_rfl
theorem at_314 (P : Params) : (frag P).lookup 314 = some (fno "lacking_item" "lacking_item" (fnAt 37) (.none) (.none) (.none) (.str "vectorcove.subset" 601) none (.ref 313) (.none) 3 0) := by kernel_rfl
theorem at_321 (P : Params) : (frag P).lookup 321 = some (fno "refuse_subset" "refuse_subset" (fnAt 38) (.none) (.none) (.none) (.str "vectorcove.subset" 601) none (.ref 320) (.none) 3 0) := by kernel_rfl
theorem at_328 (P : Params) : (frag P).lookup 328 = some (fno "result_kind" "result_kind" (fnAt 39) (.none) (.none) (.none) (.str "vectorcove.subset" 601) none (.ref 327) (.none) 3 0) := by kernel_rfl
theorem at_335 (P : Params) : (frag P).lookup 335 = some (fno "items_at" "items_at" (fnAt 40) (.none) (.none) (.none) (.str "vectorcove.subset" 601) none (.ref 334) (.none) 3 0) := by kernel_rfl
theorem at_342 (P : Params) : (frag P).lookup 342 = some (fno "names_at" "names_at" (fnAt 41) (.none) (.none) (.none) (.str "vectorcove.subset" 601) none (.ref 341) (.none) 3 0) := by kernel_rfl
theorem at_349 (P : Params) : (frag P).lookup 349 = some (fno "subset_vector" "subset_vector" (fnAt 42) (.none) (.none) (.none) (.str "vectorcove.subset" 601) none (.ref 348) (.none) 3 0) := by kernel_rfl
theorem at_356 (P : Params) : (frag P).lookup 356 = some (fno "array_places" "array_places" (fnAt 43) (.none) (.none) (.none) (.str "vectorcove.subset" 601) none (.ref 355) (.none) 3 0) := by kernel_rfl
theorem at_363 (P : Params) : (frag P).lookup 363 = some (fno "array_axes" "array_axes" (fnAt 44) (.none) (.none) (.none) (.str "vectorcove.subset" 601) none (.ref 362) (.none) 3 0) := by kernel_rfl
theorem at_370 (P : Params) : (frag P).lookup 370 = some (fno "heads_of_dimnames" "heads_of_dimnames" (fnAt 45) (.none) (.none) (.none) (.str "vectorcove.subset" 601) none (.ref 369) (.none) 3 0) := by kernel_rfl
theorem at_377 (P : Params) : (frag P).lookup 377 = some (fno "picked_dimnames" "picked_dimnames" (fnAt 46) (.none) (.none) (.none) (.str "vectorcove.subset" 601) none (.ref 376) (.none) 3 0) := by kernel_rfl
theorem at_384 (P : Params) : (frag P).lookup 384 = some (fno "dimnames_value" "dimnames_value" (fnAt 47) (.none) (.none) (.none) (.str "vectorcove.subset" 601) none (.ref 383) (.none) 3 0) := by kernel_rfl
theorem at_391 (P : Params) : (frag P).lookup 391 = some (fno "put_shape" "put_shape" (fnAt 48) (.none) (.none) (.none) (.str "vectorcove.subset" 601) none (.ref 390) (.none) 3 0) := by kernel_rfl
theorem at_398 (P : Params) : (frag P).lookup 398 = some (fno "only_names" "only_names" (fnAt 49) (.none) (.none) (.none) (.str "vectorcove.subset" 601) none (.ref 397) (.none) 3 0) := by kernel_rfl
theorem at_403 (P : Params) : (frag P).lookup 403 = some (fno "put_dropped" "put_dropped" (fnAt 50) (.none) (.none) (.none) (.str "vectorcove.subset" 601) none (.ref 402) (.none) 3 0) := by kernel_rfl
theorem at_408 (P : Params) : (frag P).lookup 408 = some (fno "subset_array" "subset_array" (fnAt 51) (.none) (.none) (.none) (.str "vectorcove.subset" 601) none (.ref 407) (.none) 3 0) := by kernel_rfl
theorem at_415 (P : Params) : (frag P).lookup 415 = some (fno "subset_row" "subset_row" (fnAt 52) (.none) (.none) (.none) (.str "vectorcove.subset" 601) none (.ref 414) (.none) 3 0) := by kernel_rfl
theorem at_420 (P : Params) : (frag P).lookup 420 = some (fno "subset_call" "subset_call" (fnAt 53) (.none) (.none) (.none) (.str "vectorcove.subset" 601) none (.ref 419) (.none) 3 0) := by kernel_rfl
theorem at_427 (P : Params) : (frag P).lookup 427 = some (fno "subset_any" "subset_any" (fnAt 54) (.none) (.none) (.none) (.str "vectorcove.subset" 601) none (.ref 426) (.none) 3 0) := by kernel_rfl
theorem at_434 (P : Params) : (frag P).lookup 434 = some (fno "_law_row" "_law_row" (fnAt 56) (.none) (.none) (.none) (.str "law_pq1441_01" 775) none (.ref 433) (.none) 3 0) := by kernel_rfl
theorem at_441 (P : Params) : (frag P).lookup 441 = some (fno "_law_next" "_law_next" (fnAt 57) (.none) (.none) (.none) (.str "law_pq1441_01" 775) none (.ref 440) (.none) 3 0) := by kernel_rfl
theorem at_448 (P : Params) : (frag P).lookup 448 = some (fno "_law_reduced" "_law_reduced" (fnAt 58) (.none) (.none) (.none) (.str "law_pq1441_01" 775) none (.ref 447) (.none) 3 0) := by kernel_rfl
theorem at_455 (P : Params) : (frag P).lookup 455 = some (fno "_law_text" "_law_text" (fnAt 59) (.none) (.none) (.none) (.str "law_pq1441_01" 775) none (.ref 454) (.none) 3 0) := by kernel_rfl
theorem at_462 (P : Params) : (frag P).lookup 462 = some (fno "_law_number" "_law_number" (fnAt 60) (.none) (.none) (.none) (.str "law_pq1441_01" 775) none (.ref 461) (.none) 3 0) := by kernel_rfl
theorem at_467 (P : Params) : (frag P).lookup 467 = some (fno "_law_index" "_law_index" (fnAt 61) (.none) (.none) (.none) (.str "law_pq1441_01" 775) none (.ref 466) (.none) 3 0) := by kernel_rfl
theorem at_474 (P : Params) : (frag P).lookup 474 = some (fno "_law_cut" "_law_cut" (fnAt 62) (.none) (.none) (.none) (.str "law_pq1441_01" 775) none (.ref 473) (.none) 3 0) := by kernel_rfl
theorem at_479 (P : Params) : (frag P).lookup 479 = some (fno "_law_due" "_law_due" (fnAt 63) (.none) (.none) (.none) (.str "law_pq1441_01" 775) none (.ref 478) (.none) 3 0) := by kernel_rfl
theorem at_486 (P : Params) : (frag P).lookup 486 = some (fno "_law_item" "_law_item" (fnAt 64) (.none) (.none) (.none) (.str "law_pq1441_01" 775) none (.ref 485) (.none) 3 0) := by kernel_rfl
theorem at_491 (P : Params) : (frag P).lookup 491 = some (fno "_law_view" "_law_view" (fnAt 65) (.none) (.none) (.none) (.str "law_pq1441_01" 775) none (.ref 490) (.none) 3 0) := by kernel_rfl
theorem at_498 (P : Params) : (frag P).lookup 498 = some (fno "_law_kept" "_law_kept" (fnAt 66) (.none) (.none) (.none) (.str "law_pq1441_01" 775) none (.ref 497) (.none) 3 0) := by kernel_rfl
theorem at_503 (P : Params) : (frag P).lookup 503 = some (fno "_law_vector" "_law_vector" (fnAt 67) (.none) (.none) (.none) (.str "law_pq1441_01" 775) none (.ref 502) (.none) 3 0) := by kernel_rfl
theorem at_508 (P : Params) : (frag P).lookup 508 = some (fno "law" "law" (fnAt 68) (.none) (.none) (.none) (.str "law_pq1441_01" 775) none (.ref 507) (.none) 3 0) := by kernel_rfl
end Mine

end
section
open PySem PySem.W PySem.Calls PyProof.Rows PySem.Spec
set_option Elab.async false
set_option maxRecDepth 100000
set_option maxHeartbeats 8000000
namespace Mine
def view : Program := { pw with main := { pw.main with body := ([0,2,3,4,5,7,8,10,11,13,14,15,16,17,18,19,20,21,22,23,24,27,28,29,30,31,32,33,34,35,37,38,39,40,41,42,43,44,45,46,47,48,49,50,51,52,53,54,56,57,58,59,60,61,62,63,64,65,66,67,68] : List Nat).filterMap fun i => pw.main.body[i]? } }
theorem and_i {a b : Bool} (x : a = true) (y : b = true) : (a && b) = true := by rw [x, y]; rfl
theorem and_3 {a b c : Bool} (x : a = true) (y : b = true) (z : c = true) : (a && b && c) = true := and_i (and_i x y) z
theorem looks_of {p : Program} (a1 : (sreFenced p.main && ((moduleNames p.main.body).isEmpty || lookedIntoSs (moduleNames p.main.body) p.main.body)) = true) (a2 : namesResolve p = true)
    (a3 : p.boundNames.all (fun n => !worldNames.contains n) = true) (r1 : readsOut p p.main.body "vars" = false) (r2 : readsOut p p.main.body "dir" = false) (r3 : readsOut p p.main.body "locals" = false)
    (a4 : noRoadLSs { strict := !(importedModules p.main.body).all cThrough.contains, foot := none, bare := [] } p.main.body = true) (a5 : (namesMeet p p.main.body fun _ n => attrL n) = true) : looksOpen p = true := by
  have f : (["vars", "dir", "locals"] : List PySem.Str).filter (readsOut p p.main.body) = [] := by
    rw [List.filter_cons, r1, List.filter_cons, r2, List.filter_cons, r3]; rfl
  unfold looksOpen
  rw [a1, a2, a3, f, a4, a5]; rfl
theorem sd_1 : (sreFenced pw.main && ((moduleNames pw.main.body).isEmpty || lookedIntoSs (moduleNames pw.main.body) pw.main.body)) = true := by kernel_rfl
theorem sd_2 : namesResolve pw = true := by kernel_rfl
theorem sd_3 : pw.boundNames.all (fun n => !worldNames.contains n) = true := by kernel_rfl
theorem sd_r1 : readsOut pw pw.main.body "vars" = false := by kernel_rfl
theorem sd_r2 : readsOut pw pw.main.body "dir" = false := by kernel_rfl
theorem sd_r3 : readsOut pw pw.main.body "locals" = false := by kernel_rfl
theorem sd_4 : noRoadLSs { strict := !(importedModules pw.main.body).all cThrough.contains, foot := none, bare := [] } pw.main.body = true := by kernel_rfl
theorem sd_5 : (namesMeet pw pw.main.body fun _ n => attrL n) = true := by kernel_rfl
theorem sd_looks : looksOpen pw = true := looks_of sd_1 sd_2 sd_3 sd_r1 sd_r2 sd_r3 sd_4 sd_5
theorem sd_prog : (PySem.Challenge.rw_pq1441_01).row.prog = pw := by kernel_rfl
theorem sd_row : (PySem.Challenge.rw_pq1441_01).row.wellSaid = true := by
  unfold OpenRow.wellSaid OpenRow.partSaid
  iterate 15
    with_reducible refine and_i ?_ ?h
    case h => kernel_rfl
  rw [sd_prog]
  with_reducible exact sd_looks
abbrev rL : OpenLaw := PySem.Challenge.rw_pq1441_01
theorem sd_a : noRoadLSs { strict := true, foot := some rL.bound', writes := rL.writes, may := rL.may } rL.footing = true := by kernel_rfl
theorem sd_b : rL.bound'.all (fun n => !builtinNamed n || rL.about == [n] || !rL.reads n) = true := by kernel_rfl
theorem sd_c : namesMeet rL.prog rL.footing (fun sc n => (!(["type", "isinstance", "issubclass", "getattr", "hasattr"] : List PySem.Str).contains n || sc.names.lookup n == some .globalImplicit) && (rL.may != some n || sc.kind == .module || sc.names.lookup n == some .globalImplicit)) = true := by kernel_rfl
theorem sd_d : namesMeet rL.prog rL.above (fun _ n => !rL.own.contains n) = true := by kernel_rfl
theorem sd_e : (namesMeet rL.prog rL.footing fun sc n => sc.kind == .module || sc.names.lookup n != some .globalExplicit) = true := by kernel_rfl
theorem said_ok : OpenLaw.wellSaid PySem.Challenge.rw_pq1441_01 = true := by
  unfold OpenLaw.wellSaid
  iterate 18
    with_reducible refine and_i ?_ ?h
    case h => first | with_reducible exact sd_a | with_reducible exact sd_b | with_reducible exact sd_c | with_reducible exact sd_d | with_reducible exact sd_e | kernel_rfl
  with_reducible exact sd_row
end Mine

end
section
open PySem PySem.W PySem.Calls PyProof.Rows PySem.Spec
set_option Elab.async false
set_option maxRecDepth 100000
set_option maxHeartbeats 8000000
set_option linter.unusedVariables false
namespace Mine
abbrev rO : OpenRow := OpenLaw.row PySem.Challenge.rw_pq1441_01
abbrev fAs : List Addr := [2, 3, 20, 21, 27, 28, 32, 33, 39, 40, 44, 45, 54, 55, 56, 71, 72, 74, 75, 83, 84, 90, 91, 97, 98, 104, 105, 109, 110, 116, 117, 123, 124, 130, 131, 137, 138, 144, 145, 151, 152, 158, 159, 165, 166, 172, 173, 174, 178, 179, 192, 193, 195, 196, 197, 198, 213, 214, 216, 217, 218, 219, 229, 235, 236, 242, 243, 245, 246, 247, 248, 258, 264, 265, 267, 268, 269, 270, 278, 279, 285, 286, 292, 293, 299, 300, 306, 307, 313, 314, 320, 321, 327, 328, 334, 335, 341, 342, 348, 349, 355, 356, 362, 363, 369, 370, 376, 377, 383, 384, 390, 391, 397, 398, 402, 403, 407, 408, 414, 415, 419, 420, 426, 427, 433, 434, 440, 441, 447, 448, 454, 455, 461, 462, 466, 467, 473, 474, 478, 479, 485, 486, 490, 491, 497, 498, 502, 503, 507, 508]
noncomputable abbrev fHook : Hook := kmHook frag fAs (fun _ => by kernel_rfl) [505]
noncomputable abbrev fX : Shared → Bool := fun s => xlAt view [] s && recOk (RowW.records rO.toRowW) s
abbrev fM := importedModules pw.main.body
abbrev fL : List PySem.Str := [Str.ofString "matrix_index"]
noncomputable def topT (st : SharedT → Thread → Option (SharedT × Thread)) (ok thr : Thread → Bool) : Nat → SharedT → Thread → Option SharedT
  | 0, _, _ => none
  | n + 1, s, t => match thr t with
    | true => some s
    | false => match ok t with
      | false => none
      | true => match st s t with
        | some (s', t') => topT st ok thr n s' t'
        | none => none
theorem topT_of {tb : String → Option Builtin} {p : Program} {w : World} {n₀ : Nat} {ann : Option Value} : ∀ {n : Nat} {s s' : SharedT} {t : Thread}, topT (stepT (denote tb) p w) (stepOk n₀ ann) through n s t = some s' → topRun tb p w n₀ ann n s.abs t = some s'.abs
  | 0, _, _, _, h => by cases h
  | n + 1, s, s', t, h => by
    unfold topT at h
    unfold topRun
    cases he : through t with
    | true => rw [he] at h; cases h; rfl
    | false =>
      rw [he] at h
      cases hk : stepOk n₀ ann t with
      | false => rw [hk] at h; cases h
      | true =>
        rw [hk] at h
        cases hs : stepT (denote tb) p w s t with
        | none => rw [hs] at h; cases h
        | some r => obtain ⟨s₂, t₂⟩ := r; rw [hs] at h; rw [stepT_spec hs]; exact topT_of h
noncomputable def bootN : Nat := 11
noncomputable def bootT (P : Params) : BT := ((boot_heap P).objs.toList.foldl (fun (x : BT × Nat) o => (x.1.ins x.2 o, x.2 + 1)) (.nil, 0)).1
theorem boot_tree (P : Params) : absHeap (bootT P) bootN (boot_heap P).life = boot_heap P := by kernel_rfl
theorem boot_look (P : Params) : ((boot_heap P).isNs mainGlobals && (#[] : Array GenState).size == 0, (boot_heap P).objs.size, (boot_heap P).nsMap mainGlobals "__annotations__") = (true, bootN, (some (.ref 6))) := by kernel_rfl
noncomputable abbrev finT (w : World) (os : OsState) : Option SharedT := topT (stepT (denote treeTable) pw w) (stepOk bootN (some (.ref 6))) through 6414 ⟨bootT w.params, bootN, (boot_heap w.params).life, #[], boot_drawn, boot_toks, os⟩ (topStub pw)
abbrev tabAs : List Addr := [16, 23, 30, 35, 42, 67, 79, 86, 93, 100, 107, 112, 119, 126, 133, 140, 147, 154, 161, 168, 176, 188, 209, 231, 238, 260, 274, 281, 288, 295, 302, 309, 316, 323, 330, 337, 344, 351, 358, 365, 372, 379, 386, 393, 400, 405, 410, 417, 422, 429, 436, 443, 450, 457, 464, 469, 476, 481, 488, 493, 500, 505]
abbrev bootAs : List Addr := [0, 1, 4]
noncomputable def bootO (P : Params) (i : Nat) : Obj := ((boot_heap P).objs.toList).getD i default
theorem run_all (w : World) (os : OsState) : (finT w os).map (fun s => ((staticsOk fM (boot_heap w.params) s.abs.heap && namesBound pw s.abs.heap && gensDone s.abs && laidKept (boot_heap w.params) s.abs.heap, Hook.obs fHook s.abs), (s.n, s.gens.size), bootAs.map s.abs.heap.get?, tabAs.map s.abs.heap.get?))
    = some ((true, Hook.val fHook w), (509, 0), (bootAs.map fun a => some (bootO w.params a)), tabAs.map fun _ => some (tabObj #[])) := by
  unfold finT
  rw [PySem.W.Fast.te10156331382660048174, PySem.W.Fast.te11892475500146522536, PySem.W.Fast.te6613529449190102663, PySem.W.Fast.te14364793385576792824]
  kernel_rfl
/-- the heap behind the top, its known part written out -/
noncomputable def litO (K : Frag) (ts bs : List Addr) (B g : Nat → Obj) (i : Nat) : Obj := match K.lookup i with
  | some o => o
  | none => match ts.contains i with
    | true => tabObj #[]
    | false => match bs.contains i with
      | true => B i
      | false => g i
noncomputable def litH (K : Frag) (ts bs : List Addr) (B g : Nat → Obj) (n : Nat) (life : Life) : Heap := ⟨((List.range n).map (litO K ts bs B g)).toArray, life⟩
theorem objs_of {h : Heap} {a : Addr} {o : Obj} (e : h.get? a = some o) : h.objs[a]? = some o := by
  unfold Heap.get? at e
  split at e
  · cases e
  · exact e
theorem lit_of {K : Frag} {ts bs : List Addr} {B : Nat → Obj} {n : Nat} {h : Heap} (hn : h.objs.size = n) (F : K.In h) (T : ∀ a ∈ ts, h.get? a = some (tabObj #[])) (Q : ∀ a ∈ bs, h.get? a = some (B a)) :
    h = litH K ts bs B (fun i => h.objs[i]?.getD default) n h.life := by
  have e : h.objs = ((List.range n).map (litO K ts bs B (fun i => h.objs[i]?.getD default))).toArray := by
    apply Array.ext_getElem?
    intro i
    refine Eq.trans ?_ (List.getElem?_toArray (xs := (List.range n).map (litO K ts bs B (fun i => h.objs[i]?.getD default)))).symm
    rw [List.getElem?_map]
    by_cases c : i < n
    · rw [List.getElem?_range c]
      show h.objs[i]? = some (litO K ts bs B (fun i => h.objs[i]?.getD default) i)
      unfold litO
      cases hk : K.lookup i with
      | some o => exact objs_of (F _ _ hk)
      | none =>
        cases ht : ts.contains i with
        | true => exact objs_of (T i (List.contains_iff_mem.mp ht))
        | false =>
          cases hb : bs.contains i with
          | true => exact objs_of (Q i (List.contains_iff_mem.mp hb))
          | false =>
            rw [← hn] at c
            show h.objs[i]? = some (h.objs[i]?.getD default)
            rw [Array.getElem?_eq_getElem c]; rfl
    · rw [List.getElem?_eq_none (by rw [List.length_range]; omega), Array.getElem?_eq_none (by omega)]; rfl
  obtain ⟨objs, life⟩ := h
  exact congrArg (fun x => Heap.mk x life) e
theorem seen_of {q : Program} {loose mods : List PySem.Str} {Xt : Shared → Bool} {s : Shared} (e1 : seen ((recsOf q).map (·.name)) (ownsOf q) [] { s with gens := #[] } = expectedOf q) (e2 : s.heap.bltView = bltViewBooted)
    (k1 : s.heap.keysOk (looseW q loose) ((recsOf q).map (·.name)) ((litsOf q).map (·.1)) ((clssOf q (looseW q loose)).map (·.name)) = true) (k2 : s.heap.accountedOkI mods = true)
    (k3 : s.heap.isNs mainGlobals = true) (k4 : s.heap.isNs builtinsNs = true) (k5 : tablesOk q s.heap = true) (k6 : Xt s = true) (k7 : s.gens.size = 0)
    (e4 : tabsOk q s = true) (e5 : pinSeenD q (drecsOf q) s = pinGoodD (drecsOf q)) (e6 : plainSeenE q (looseW q loose) s = plainGoodE q (looseW q loose)) (e7 : plainSeenD q loose s = plainGoodD q loose)
    (e8 : wideSeen q s = wideGood q) (e9 : clsSeenW q loose s = clsGoodW q loose) : openSeen q loose mods Xt true s = openGood q loose := by
  unfold openSeen openGood
  rw [e1, e2, k1, k2, k3, k4, k5, k6, k7, e4, e5, e6, e7, e8, e9]; rfl
theorem left_of {p q : Program} {loose : List PySem.Str} {Xt : Shared → Bool} {α : Type} {Yf : Shared → α} {Ya : World → α} {N n₀ : Nat} {ann : Option Value} {T : Params → BT} {L : Params → Life} {H : Params → Heap} {d : Drawn} {k : Nat}
    (ho : ∀ w : World, (fencedOpening treeTable p w N).map (fun s => (s.heap, s.gens, s.drawn, s.toks)) = some (H w.params, Array.mk [], d, k)) (hT : ∀ P, absHeap (T P) n₀ (L P) = H P)
    (hl : ∀ P, ((H P).isNs mainGlobals && (#[] : Array GenState).size == 0, (H P).objs.size, (H P).nsMap mainGlobals "__annotations__") = (true, n₀, ann))
    {R : World → OsState → Option SharedT} (hR : ∀ w os, R w os = topT (stepT (denote treeTable) p w) (stepOk n₀ ann) through N ⟨T w.params, n₀, L w.params, #[], d, k, os⟩ (topStub p))
    (hs : ∀ w os, ∃ s, R w os = some s ∧ (staticsOk (importedModules p.main.body) (H w.params) s.abs.heap && namesBound p s.abs.heap && gensDone s.abs && laidKept (H w.params) s.abs.heap) = true ∧ Yf s.abs = Ya w ∧ openSeen q loose (importedModules p.main.body) Xt true s.abs = openGood q loose) : LeftO p q loose Xt Yf Ya N := fun w => by
  obtain ⟨⟨h, gs, d, k, os⟩, e, e'⟩ := Option.map_eq_some_iff.mp (ho w)
  simp only [Prod.mk.injEq] at e'
  obtain ⟨rfl, rfl, rfl, rfl⟩ := e'
  obtain ⟨s, e0, x0, x1, x2⟩ := hs w os
  have r := topT_of ((hR w os).symm.trans e0)
  obtain ⟨z1, z2, z3⟩ : _ ∧ _ ∧ _ := by simpa only [Prod.mk.injEq] using hl w.params
  unfold SharedT.abs at r
  dsimp only at r
  rw [hT] at r
  have t : topFrom treeTable p w N ⟨H w.params, #[], d, k, os⟩ = some s.abs := by
    unfold topFrom
    dsimp only
    rw [z1, z2, z3]
    dsimp only
    rw [show topRun treeTable p w n₀ ann N ⟨H w.params, #[], d, k, os⟩ (topStub p) = some s.abs from r]
    show (match staticsOk (importedModules p.main.body) (H w.params) s.abs.heap && namesBound p s.abs.heap && gensDone s.abs && laidKept (H w.params) s.abs.heap with | true => _ | false => _) = _
    rw [x0]
  show ((fencedOpening treeTable p w N).bind (topFrom treeTable p w N)).map _ = _
  rw [e]
  show (topFrom treeTable p w N ⟨H w.params, #[], d, k, os⟩).map _ = _
  rw [t]
  exact congrArg some (Prod.ext x2 x1)
noncomputable abbrev fH (P : Params) (g : Nat → Obj) (life : Life) : Heap := litH (frag P) tabAs bootAs (bootO P) g 509 life
theorem lit_e1 (P : Params) (g : Nat → Obj) (life : Life) (gens : Array GenState) (d : Drawn) (k : Nat) (os : OsState) : seen ((recsOf view).map (·.name)) (ownsOf view) [] ⟨fH P g life, #[], d, k, os⟩ = expectedOf view := by kernel_rfl
theorem lit_k1 (P : Params) (g : Nat → Obj) (life : Life) (gens : Array GenState) (d : Drawn) (k : Nat) (os : OsState) : (fH P g life).keysOk (looseW view fL) ((recsOf view).map (·.name)) ((litsOf view).map (·.1)) ((clssOf view (looseW view fL)).map (·.name)) = true := by kernel_rfl
theorem lit_k2 (P : Params) (g : Nat → Obj) (life : Life) (gens : Array GenState) (d : Drawn) (k : Nat) (os : OsState) : (fH P g life).accountedOkI fM = true := by kernel_rfl
theorem lit_k3 (P : Params) (g : Nat → Obj) (life : Life) (gens : Array GenState) (d : Drawn) (k : Nat) (os : OsState) : (fH P g life).isNs mainGlobals = true := by kernel_rfl
theorem lit_k4 (P : Params) (g : Nat → Obj) (life : Life) (gens : Array GenState) (d : Drawn) (k : Nat) (os : OsState) : (fH P g life).isNs builtinsNs = true := by kernel_rfl
theorem lit_k5 (P : Params) (g : Nat → Obj) (life : Life) (gens : Array GenState) (d : Drawn) (k : Nat) (os : OsState) : tablesOk view (fH P g life) = true := by kernel_rfl
theorem lit_k6 (P : Params) (g : Nat → Obj) (life : Life) (gens : Array GenState) (d : Drawn) (k : Nat) (os : OsState) : fX ⟨fH P g life, gens, d, k, os⟩ = true := by kernel_rfl
theorem lit_e2 (P : Params) (g : Nat → Obj) (life : Life) (gens : Array GenState) (d : Drawn) (k : Nat) (os : OsState) : (fH P g life).bltView = bltViewBooted := by kernel_rfl
theorem lit_e4 (P : Params) (g : Nat → Obj) (life : Life) (gens : Array GenState) (d : Drawn) (k : Nat) (os : OsState) : tabsOk view ⟨fH P g life, gens, d, k, os⟩ = true := by kernel_rfl
theorem lit_e5 (P : Params) (g : Nat → Obj) (life : Life) (gens : Array GenState) (d : Drawn) (k : Nat) (os : OsState) : pinSeenD view (drecsOf view) ⟨fH P g life, gens, d, k, os⟩ = pinGoodD (drecsOf view) := by kernel_rfl
theorem lit_e6 (P : Params) (g : Nat → Obj) (life : Life) (gens : Array GenState) (d : Drawn) (k : Nat) (os : OsState) : plainSeenE view (looseW view fL) ⟨fH P g life, gens, d, k, os⟩ = plainGoodE view (looseW view fL) := by kernel_rfl
theorem lit_e7 (P : Params) (g : Nat → Obj) (life : Life) (gens : Array GenState) (d : Drawn) (k : Nat) (os : OsState) : plainSeenD view fL ⟨fH P g life, gens, d, k, os⟩ = plainGoodD view fL := by kernel_rfl
theorem lit_e8 (P : Params) (g : Nat → Obj) (life : Life) (gens : Array GenState) (d : Drawn) (k : Nat) (os : OsState) : wideSeen view ⟨fH P g life, gens, d, k, os⟩ = wideGood view := by kernel_rfl
theorem lit_e9 (P : Params) (g : Nat → Obj) (life : Life) (gens : Array GenState) (d : Drawn) (k : Nat) (os : OsState) : clsSeenW view fL ⟨fH P g life, gens, d, k, os⟩ = clsGoodW view fL := by kernel_rfl
theorem fin_ok (w : World) (os : OsState) : ∃ s, finT w os = some s ∧ (staticsOk fM (boot_heap w.params) s.abs.heap && namesBound pw s.abs.heap && gensDone s.abs && laidKept (boot_heap w.params) s.abs.heap) = true ∧ Hook.obs fHook s.abs = Hook.val fHook w ∧ openSeen view fL fM fX true s.abs = openGood view fL := by
  obtain ⟨s, e, x⟩ := Option.map_eq_some_iff.mp (run_all w os)
  obtain ⟨⟨x1, x2⟩, ⟨x3, x4⟩, x5, x6⟩ : (_ ∧ _) ∧ (_ ∧ _) ∧ _ ∧ _ := by simpa only [Prod.mk.injEq] using x
  refine ⟨s, e, x1, x2, ?_⟩
  have F := km_in_of (Hook.of fHook w s.abs x2)
  obtain ⟨tree, n, life, gens, d, k, os⟩ := s
  have x3 : n = 509 := x3
  subst x3
  have h := lit_of (absHeap_size tree 509 life) F (List.map_inj_left.mp x6) (List.map_inj_left.mp x5)
  show openSeen view fL fM fX true ⟨absHeap tree 509 life, gens, d, k, os⟩ = openGood view fL
  rw [h]
  exact seen_of (lit_e1 _ _ _ gens _ _ _) (lit_e2 _ _ _ gens d k os) (lit_k1 _ _ _ gens d k os) (lit_k2 _ _ _ gens d k os) (lit_k3 _ _ _ gens d k os) (lit_k4 _ _ _ gens d k os) (lit_k5 _ _ _ gens d k os) (lit_k6 _ _ _ _ _ _ _) x4 (lit_e4 _ _ _ _ _ _ _) (lit_e5 _ _ _ _ _ _ _) (lit_e6 _ _ _ _ _ _ _) (lit_e7 _ _ _ _ _ _ _) (lit_e8 _ _ _ _ _ _ _) (lit_e9 _ _ _ _ _ _ _)
theorem open_a : opening pw = plainProg pw.main.scope.names := by kernel_rfl
theorem open_f (s : Shared) : fenceModules? pw s = some s := by kernel_rfl
theorem open_b : ∀ w : World, (fencedOpening treeTable pw w 6414).map (fun s => (s.heap, s.gens, s.drawn, s.toks)) = some (boot_heap w.params, Array.mk [], boot_drawn, boot_toks) := boot_open open_a (by decide) open_f
theorem left_ok : LeftO rO.toRowW.prog view fL fX (Hook.obs fHook) (Hook.val fHook) 6414 := left_of (L := fun P => (boot_heap P).life) open_b boot_tree boot_look (fun _ _ => rfl) fin_ok
end Mine

end
section
open PySem PySem.W PySem.Calls PyProof.Rows PySem.Spec
set_option Elab.async false
set_option maxRecDepth 100000
set_option maxHeartbeats 8000000
namespace Mine
theorem fKeys (P : Params) : fAs = (frag P).map (·.1) := by kernel_rfl
abbrev lawD : DefRec := { name := Str.ofString "law", params := (fnAt 68).1, body := (fnAt 68).2.1, scope := (fnAt 68).2.2, pos := ⟨574, 0, 603, 77⟩ }
theorem law_def : defOf view rO.name = some (lawD, []) := by kernel_rfl
theorem law_the : rO.toRowW.prog.theDef rO.name = some (lawD.params, lawD.body, lawD.scope) := by kernel_rfl
theorem law_kw : kwWritten? lawD.params.kwonlyargs lawD.params.kw_defaults = some [] := by kernel_rfl
theorem law_ok : (chainsOk view && opensWell rO.prog && (frees rO.toRowW && rO.within.isEmpty)) = true := by kernel_rfl
theorem law_bare : rO.prog.bare := ⟨rfl, rfl, rfl, rfl, rfl, by decide +kernel⟩
theorem law_wit : (OpenRow.toRowW (OpenLaw.row PySem.Challenge.rw_pq1441_01)).promised := by w_witness2
theorem top (walk : WalkO view fL (XL view []) (Hook.says (kmHook frag fAs fKeys [505])) (OpenRow.toRowW (OpenLaw.row PySem.Challenge.rw_pq1441_01)) lawD [] fun f vs => PySem.call f vs) : PySem.Challenge.rw_pq1441_01.Holds :=
  holds_law said_ok fun said => holds_open (Xt := fX) (N := 6414) left_ok (Hook.of fHook) (Hook.keeps fHook) (fun s e => xl_of s (Bool.and_eq_true_iff.mp e).1) XL.keeps law_def law_the law_kw (fun s e => recFacts_of (Bool.and_eq_true_iff.mp e).2) (by rfl) said law_ok law_bare law_wit walk
end Mine

end
section
open PySem PySem.W PySem.Calls PyProof.Rows PySem.Spec
set_option Elab.async false
set_option maxRecDepth 100000
namespace Mine

noncomputable abbrev Know := List (PySem.Str × Option (Option Value))
noncomputable abbrev Mut := List (Addr × (Obj → Prop))
noncomputable abbrev Led := List (Addr × Obj)

set_option genInjectivity false in
set_option genSizeOf false in
structure Sig where
  prog : Program
  w : World
  K : Frag
  W₀ : Heap
  gens : Array GenState
  drawn : Drawn
  os : OsState
  mg : PySem.Str → Option Value
  mb : PySem.Str → Option Value

structure Sig.Ok (σ : Sig) : Prop where
  In : σ.K.In σ.W₀
  g : σ.W₀.Ns mainGlobals σ.mg
  b : σ.W₀.Ns builtinsNs σ.mb
  nolimit : σ.W₀.NoLimit
  builtins : ∀ x : PySem.Str, x ≠ "__name__" → σ.mb x = bootBuiltins x

noncomputable abbrev Sig.M (σ : Sig) : Model := model σ.prog σ.w

noncomputable def NsK (h : Heap) (L : Addr) (l : Know) : Prop := (l.map (·.1)).Nodup ∧ ∃ m, h.Ns L m ∧ ∀ p ∈ l, ∀ o, p.2 = some o → m p.1 = o

structure St (σ : Sig) (L : Addr) (m : Know) (Fs : List (Addr × Know)) (M : Mut) (X : Led) (s : Shared) : Prop where
  ok : σ.Ok
  gens : s.gens = σ.gens
  drawn : s.drawn = σ.drawn
  os : s.os = σ.os
  W : ∀ b o, σ.W₀.get? b = some o → s.heap.get? b = some o
  cur : NsK s.heap L m
  fs : ∀ p ∈ Fs, NsK s.heap p.1 p.2
  own : ∀ p ∈ M, ∃ o, s.heap.get? p.1 = some o ∧ p.2 o
  fz : ∀ p ∈ X, s.heap.get? p.1 = some p.2
  nd : (L :: (Fs.map (·.1) ++ M.map (·.1))).Nodup
  new : ∀ a ∈ L :: (Fs.map (·.1) ++ M.map (·.1)), σ.W₀.get? a = none ∧ ∀ p ∈ X, p.1 ≠ a

theorem NsK.keeps {h h' : Heap} {L : Addr} {l : Know} (x : NsK h L l) (hk : ∀ o, h.get? L = some o → h'.get? L = some o) : NsK h' L l :=
  let ⟨nd, m, ⟨o, es, ep, ho, r⟩, q⟩ := x; ⟨nd, m, ⟨o, es, ep, hk _ ho, r⟩, q⟩
theorem NsK.lt {h : Heap} {L : Addr} {l : Know} (x : NsK h L l) : L < h.objs.size := let ⟨_, _, a, _⟩ := x; a.lt
theorem NsK.weak {h : Heap} {L : Addr} {l l' : Know} (x : NsK h L l) (hn : l'.map (·.1) = l.map (·.1)) (hs : ∀ p ∈ l', p.2 = none ∨ p ∈ l) : NsK h L l' :=
  let ⟨nd, m, a, q⟩ := x; ⟨hn ▸ nd, m, a, fun p hp o ho => by
    rcases hs p hp with e | e
    · rw [e] at ho; cases ho
    · exact q p e o ho⟩

section
variable {σ : Sig} {L : Addr} {m m' : Know} {Fs : List (Addr × Know)} {M M' : Mut} {X X' : Led} {s s' : Shared}

theorem St.own_lt (S : St σ L m Fs M X s) {a : Addr} (ha : a ∈ L :: (Fs.map (·.1) ++ M.map (·.1))) : a < s.heap.objs.size := by
  rcases List.mem_cons.mp ha with rfl | ha
  · exact S.cur.lt
  rcases List.mem_append.mp ha with ha | ha
  · obtain ⟨p, hp, rfl⟩ := List.mem_map.mp ha
    exact (S.fs p hp).lt
  · obtain ⟨p, hp, rfl⟩ := List.mem_map.mp ha
    obtain ⟨o, ho, _⟩ := S.own p hp
    exact Heap.lt_size ho
theorem St.fresh (S : St σ L m Fs M X s) : s.heap.objs.size ∉ L :: (Fs.map (·.1) ++ M.map (·.1)) := fun h => Nat.lt_irrefl _ (S.own_lt h)
theorem St.freshW (S : St σ L m Fs M X s) : σ.W₀.get? s.heap.objs.size = none := by
  cases q : σ.W₀.get? s.heap.objs.size with
  | none => rfl
  | some o => exact absurd (Heap.lt_size (S.W _ _ q)) (Nat.lt_irrefl _)
theorem St.freshX (S : St σ L m Fs M X s) : ∀ p ∈ X, p.1 ≠ s.heap.objs.size := fun p hp e => by
  have := Heap.lt_size (S.fz p hp)
  rw [e] at this
  exact Nat.lt_irrefl _ this

theorem St.grow (S : St σ L m Fs M X s) (hk : ∀ b o, s.heap.get? b = some o → s'.heap.get? b = some o) (hg : s'.gens = s.gens := by rfl) (hd : s'.drawn = s.drawn := by rfl) (ho : s'.os = s.os := by rfl) : St σ L m Fs M X s' :=
  ⟨S.ok, hg.trans S.gens, hd.trans S.drawn, ho.trans S.os, fun b o e => hk b o (S.W b o e), S.cur.keeps fun o e => hk _ o e, fun p hp => (S.fs p hp).keeps fun o e => hk _ o e,
    fun p hp => let ⟨o, a, b⟩ := S.own p hp; ⟨o, hk _ _ a, b⟩, fun p hp => hk _ _ (S.fz p hp), S.nd, S.new⟩
theorem St.toks (S : St σ L m Fs M X s) (t : Nat) : St σ L m Fs M X { s with toks := t } := S.grow fun _ _ e => e

/-- one owned address other than the frame changes -/
theorem St.setCur (S : St σ L m Fs M X s) (hk : ∀ b o, b ≠ L → s.heap.get? b = some o → s'.heap.get? b = some o) (hn : NsK s'.heap L m') (hg : s'.gens = s.gens := by rfl) (hd : s'.drawn = s.drawn := by rfl) (ho : s'.os = s.os := by rfl) :
    St σ L m' Fs M X s' := by
  have hnd := List.nodup_cons.mp S.nd
  refine ⟨S.ok, hg.trans S.gens, hd.trans S.drawn, ho.trans S.os, fun b o e => hk b o (fun q => ?_) (S.W b o e), hn, fun p hp => (S.fs p hp).keeps fun o e => hk _ o (fun q => ?_) e, fun p hp => ?_, fun p hp => hk _ _ ?_ (S.fz p hp), S.nd, S.new⟩
  · rw [q, (S.new L (.head _)).1] at e; cases e
  · exact hnd.1 (List.mem_append_left _ (List.mem_map.mpr ⟨p, hp, q⟩))
  · obtain ⟨o, a, b⟩ := S.own p hp
    exact ⟨o, hk _ _ (fun q => hnd.1 (List.mem_append_right _ (List.mem_map.mpr ⟨p, hp, q⟩))) a, b⟩
  · exact (S.new L (.head _)).2 p hp

inductive Ch (a : Addr) (P P' : Obj → Prop) : Mut → Mut → Prop
  | head {r} : Ch a P P' ((a, P) :: r) ((a, P') :: r)
  | tail {p r r'} : Ch a P P' r r' → Ch a P P' (p :: r) (p :: r')
theorem Ch.addrs {a : Addr} {P P' : Obj → Prop} : ∀ {M M' : Mut}, Ch a P P' M M' → M'.map (·.1) = M.map (·.1)
  | _, _, .head => rfl
  | _, _, .tail r => by simp [r.addrs]
theorem Ch.mem {a : Addr} {P P' : Obj → Prop} : ∀ {M M' : Mut}, Ch a P P' M M' → (a, P) ∈ M
  | _, _, .head => .head _
  | _, _, .tail r => .tail _ r.mem
theorem Ch.own {a : Addr} {P P' : Obj → Prop} {h h' : Heap} : ∀ {M M' : Mut}, Ch a P P' M M' → (M.map (·.1)).Nodup → (∀ p ∈ M, ∃ o, h.get? p.1 = some o ∧ p.2 o) → (∀ b o, b ≠ a → h.get? b = some o → h'.get? b = some o) →
    (∃ o, h'.get? a = some o ∧ P' o) → ∀ p ∈ M', ∃ o, h'.get? p.1 = some o ∧ p.2 o
  | _, _, .head, nd, hm, hk, hn, p, hp => by
    rcases List.mem_cons.mp hp with rfl | hp
    · exact hn
    · obtain ⟨o, x, y⟩ := hm p (.tail _ hp)
      exact ⟨o, hk _ _ (fun q => (List.nodup_cons.mp nd).1 (List.mem_map.mpr ⟨p, hp, q⟩)) x, y⟩
  | _, _, .tail r, nd, hm, hk, hn, p, hp => by
    rcases List.mem_cons.mp hp with rfl | hp
    · obtain ⟨o, x, y⟩ := hm _ (.head _)
      exact ⟨o, hk _ _ (fun q => (List.nodup_cons.mp nd).1 (by show p.1 ∈ _; rw [q]; exact List.mem_map.mpr ⟨_, r.mem, rfl⟩)) x, y⟩
    · exact r.own (List.nodup_cons.mp nd).2 (fun p hp => hm p (.tail _ hp)) hk hn p hp
theorem St.setMut {a : Addr} {P P' : Obj → Prop} (S : St σ L m Fs M X s) (U : Ch a P P' M M') (hk : ∀ b o, b ≠ a → s.heap.get? b = some o → s'.heap.get? b = some o) (hn : ∃ o, s'.heap.get? a = some o ∧ P' o)
    (hg : s'.gens = s.gens := by rfl) (hd : s'.drawn = s.drawn := by rfl) (ho : s'.os = s.os := by rfl) : St σ L m Fs M' X s' := by
  have ha : a ∈ M.map (·.1) := List.mem_map.mpr ⟨_, U.mem, rfl⟩
  have ha' : a ∈ L :: (Fs.map (·.1) ++ M.map (·.1)) := .tail _ (List.mem_append_right _ ha)
  have hnd := List.nodup_cons.mp S.nd
  have hap := List.nodup_append.mp hnd.2
  refine ⟨S.ok, hg.trans S.gens, hd.trans S.drawn, ho.trans S.os, fun b o e => hk b o (fun q => ?_) (S.W b o e), S.cur.keeps fun o e => hk _ o (fun q => ?_) e, fun p hp => (S.fs p hp).keeps fun o e => hk _ o (fun q => ?_) e,
    U.own hap.2.1 S.own hk hn, fun p hp => hk _ _ ((S.new a ha').2 p hp) (S.fz p hp), by rw [U.addrs]; exact S.nd, by rw [U.addrs]; exact S.new⟩
  · rw [q, (S.new a ha').1] at e; cases e
  · exact hnd.1 (List.mem_append_right _ (q ▸ ha))
  · exact hap.2.2 _ (List.mem_map.mpr ⟨p, hp, rfl⟩) _ ha q

theorem St.addM {a : Addr} {P : Obj → Prop} {o : Obj} (S : St σ L m Fs M X s) (ha : s.heap.get? a = some o) (hP : P o) (hf : a ∉ L :: (Fs.map (·.1) ++ M.map (·.1))) (hW : σ.W₀.get? a = none) (hX : ∀ p ∈ X, p.1 ≠ a) :
    St σ L m Fs ((a, P) :: M) X s := by
  refine ⟨S.ok, S.gens, S.drawn, S.os, S.W, S.cur, S.fs, fun p hp => ?_, S.fz, ?_, fun b hb => ?_⟩
  · rcases List.mem_cons.mp hp with rfl | hp
    · exact ⟨o, ha, hP⟩
    · exact S.own p hp
  · have := S.nd
    simp only [List.map_cons, List.nodup_cons, List.mem_cons, List.mem_append, List.nodup_append, not_or] at this hf ⊢
    refine ⟨⟨this.1.1, fun q => hf.1 q.symm, this.1.2⟩, this.2.1, ⟨hf.2.2, this.2.2.1⟩, ?_⟩
    intro x hx y hy
    rcases hy with rfl | hy
    · exact fun q => hf.2.1 (q ▸ hx)
    · exact this.2.2.2 x hx y hy
  · simp only [List.map_cons, List.mem_cons, List.mem_append] at hb
    rcases hb with rfl | hb | rfl | hb
    · exact S.new _ (.head _)
    · exact S.new _ (.tail _ (List.mem_append_left _ hb))
    · exact ⟨hW, hX⟩
    · exact S.new _ (.tail _ (List.mem_append_right _ hb))
theorem St.addX {a : Addr} {o : Obj} (S : St σ L m Fs M X s) (ha : s.heap.get? a = some o) (hf : a ∉ L :: (Fs.map (·.1) ++ M.map (·.1))) : St σ L m Fs M ((a, o) :: X) s := by
  refine ⟨S.ok, S.gens, S.drawn, S.os, S.W, S.cur, S.fs, S.own, fun p hp => ?_, S.nd, fun b hb => ⟨(S.new b hb).1, fun p hp => ?_⟩⟩
  · rcases List.mem_cons.mp hp with rfl | hp
    · exact ha
    · exact S.fz p hp
  · rcases List.mem_cons.mp hp with rfl | hp
    · exact fun q => hf (by have q' : a = b := q; rw [q']; exact hb)
    · exact (S.new b hb).2 p hp
theorem St.pushM {P : Obj → Prop} {o : Obj} (S : St σ L m Fs M X s) (hP : P o) (hf : o.isFreed = false := by rfl) : St σ L m Fs ((s.heap.objs.size, P) :: M) X { s with heap := s.heap.push o } :=
  (S.grow (s' := { s with heap := s.heap.push o }) fun _ _ e => Heap.get?_push_of_some _ e).addM (Heap.get?_push_size _ hf) hP S.fresh S.freshW S.freshX
theorem St.pushX {o : Obj} (S : St σ L m Fs M X s) (hf : o.isFreed = false := by rfl) : St σ L m Fs M ((s.heap.objs.size, o) :: X) { s with heap := s.heap.push o } :=
  (S.grow (s' := { s with heap := s.heap.push o }) fun _ _ e => Heap.get?_push_of_some _ e).addX (Heap.get?_push_size _ hf) S.fresh

theorem St.dropM {p : Addr × (Obj → Prop)} (S : St σ L m Fs (p :: M) X s) : St σ L m Fs M X s := by
  refine ⟨S.ok, S.gens, S.drawn, S.os, S.W, S.cur, S.fs, fun q hq => S.own q (.tail _ hq), S.fz, ?_, fun b hb => S.new b ?_⟩
  · have := S.nd
    simp only [List.map_cons, List.nodup_cons, List.mem_cons, List.mem_append, List.nodup_append, not_or] at this ⊢
    exact ⟨⟨this.1.1, this.1.2.2⟩, this.2.1, this.2.2.1.2, fun x hx y hy => this.2.2.2 x hx y (.inr hy)⟩
  · simp only [List.map_cons, List.mem_cons, List.mem_append] at hb ⊢
    rcases hb with h | h | h
    · exact .inl h
    · exact .inr (.inl h)
    · exact .inr (.inr (.inr h))
/-- the newest own object is written no more -/
theorem St.freeze {a : Addr} {P : Obj → Prop} (S : St σ L m Fs ((a, P) :: M) X s) : ∃ o, P o ∧ St σ L m Fs M ((a, o) :: X) s := by
  obtain ⟨o, ho, hP⟩ := S.own (a, P) (.head _)
  refine ⟨o, hP, S.dropM.addX ho ?_⟩
  have := S.nd
  simp only [List.map_cons, List.nodup_cons, List.mem_cons, List.mem_append, List.nodup_append, not_or] at this ⊢
  exact ⟨fun q => this.1.2.1 q.symm, fun q => this.2.2.2 _ q _ (.inl rfl) rfl, this.2.2.1.1⟩
theorem St.subX (S : St σ L m Fs M X s) (hs : ∀ p ∈ X', p ∈ X) : St σ L m Fs M X' s :=
  ⟨S.ok, S.gens, S.drawn, S.os, S.W, S.cur, S.fs, S.own, fun p hp => S.fz p (hs p hp), S.nd, fun a ha => ⟨(S.new a ha).1, fun p hp => (S.new a ha).2 p (hs p hp)⟩⟩
theorem St.permM (S : St σ L m Fs M X s) (hp : M.Perm M') : St σ L m Fs M' X s := by
  refine ⟨S.ok, S.gens, S.drawn, S.os, S.W, S.cur, S.fs, fun p h => S.own p (hp.mem_iff.mpr h), S.fz, ?_, fun a ha => S.new a ?_⟩
  · refine (List.Perm.nodup_iff (List.Perm.cons _ (List.Perm.append_left _ (hp.map _)))).mp S.nd
  · exact (List.Perm.mem_iff (List.Perm.cons _ (List.Perm.append_left _ (hp.map (·.1))))).mpr ha
/-- weaken what is said of an own object -/
theorem St.weak (S : St σ L m Fs M X s) {a : Addr} {P P' : Obj → Prop} (U : Ch a P P' M M') (h : ∀ o, P o → P' o) : St σ L m Fs M' X s := by
  obtain ⟨o, ho, hP⟩ := S.own _ U.mem
  exact S.setMut U (fun _ _ _ e => e) ⟨o, ho, h o hP⟩

/-- leave a frame -/
theorem St.pop {L' : Addr} {m' : Know} (S : St σ L' m' ((L, m) :: Fs) M X s) : St σ L m Fs M X s := by
  refine ⟨S.ok, S.gens, S.drawn, S.os, S.W, S.fs (L, m) (.head _), fun p hp => S.fs p (.tail _ hp), S.own, S.fz, (List.nodup_cons.mp S.nd).2, fun a ha => S.new a (.tail _ ha)⟩
/-- enter a frame -/
theorem St.enter {L' : Addr} {m' : Know} (S : St σ L m Fs M X s) (hn : NsK s.heap L' m') (hf : L' ∉ L :: (Fs.map (·.1) ++ M.map (·.1))) (hW : σ.W₀.get? L' = none) (hX : ∀ p ∈ X, p.1 ≠ L') : St σ L' m' ((L, m) :: Fs) M X s := by
  refine ⟨S.ok, S.gens, S.drawn, S.os, S.W, hn, fun p hp => ?_, S.own, S.fz, List.nodup_cons.mpr ⟨hf, S.nd⟩, fun a ha => ?_⟩
  · rcases List.mem_cons.mp hp with rfl | hp
    · exact S.cur
    · exact S.fs p hp
  · rcases List.mem_cons.mp ha with rfl | ha
    · exact ⟨hW, hX⟩
    · exact S.new a ha

end
end Mine

end
section
open PySem PySem.W PySem.Calls PyProof.Rows PySem.Spec
set_option Elab.async false
set_option maxRecDepth 100000
namespace Mine

set_option linter.unusedVariables false
structure Rm (A : Around) (k : Nat) (as : List Addr) : Prop where
  hd : A.handled = none
  dp : A.depth + k < recursionLimit
  un : A.units + 16 * k + 64 < cLine
  fr : ∃ envs, A.frames = some envs ∧ ∀ env ∈ envs, env.scope.kind = .function ∧ ∃ Lf, env.frame = some Lf ∧ Lf ∈ as
theorem Rm.le {A : Around} {k k' : Nat} {as as' : List Addr} (R : Rm A k as) (h : k' ≤ k) (hs : ∀ a ∈ as, a ∈ as') : Rm A k' as' :=
  ⟨R.hd, by have := R.dp; omega, by have := R.un; omega, let ⟨e, a, b⟩ := R.fr; ⟨e, a, fun x hx => let ⟨p, l, q, r⟩ := b x hx; ⟨p, l, q, hs _ r⟩⟩⟩
theorem Rm.deeper {A : Around} {k : Nat} {as : List Addr} {env : Env} {L : Addr} (R : Rm A (k + 1) as) (hk : env.scope.kind = .function) (hf : env.frame = some L) : Rm (A.deeper env) k (L :: as) := by
  refine ⟨R.hd, ?_, ?_, ?_⟩
  · have := R.dp; show A.depth + 1 + k < _; omega
  · have := R.un; show A.units + 3 + 16 * k + 64 < _; omega
  · obtain ⟨e, a, b⟩ := R.fr
    refine ⟨env :: e, by show A.frames.map _ = _; rw [a]; rfl, fun x hx => ?_⟩
    rcases List.mem_cons.mp hx with rfl | hx
    · exact ⟨hk, L, hf, .head _⟩
    · obtain ⟨p, l, q, r⟩ := b x hx
      exact ⟨p, l, q, .tail _ r⟩

/-- what follows a statement -/
noncomputable def thenDo (Q : Flow → Shared → Prop) (k : Shared → Prop) : Flow → Shared → Prop := fun f s => match f with | .next => k s | f => Q f s

section
variable {M : Model} {A : Around} {E : Value → Shared → Prop} {s : Shared} {env : Env} {rest : List Stmt} {Q : Flow → Shared → Prop}
theorem x_nil (h : Q .next s) : wpAny M A (execs [] env) Q E s := wpAny_execs_nil h
theorem x_assign {x : PySem.Str} {p pos : Pos} {value : Expr}
    (h : wpAny M A (eval value env) (fun v s₁ => wpAny M A (storeName env x v) (fun _ s₂ => wpAny M A (execs rest env) Q E s₂) E s₁) E s)
    (hs : swapsWith value (some (.Name x p)) pos.line env = pure false := by rfl) : wpAny M A (execs (.Assign [.Name x p] value pos :: rest) env) Q E s :=
  wpAny_execs_cons (wpAny_Assign_Name (wpAny_mono h (fun v s₁ h₁ => wpAny_mono h₁ (fun _ _ h₂ => h₂) fun _ _ e => e) fun _ _ e => e) hs)
theorem x_ret {e : Expr} {pos : Pos} (h : wpAny M A (eval e env) (fun v => Q (.ret v)) E s) : wpAny M A (execs (.Return (some e) pos :: rest) env) Q E s :=
  wpAny_execs_cons (wpAny_Return_some h)
theorem x_if {test : Expr} {body orelse : List Stmt} {pos : Pos}
    (h : wpAny M A (isTrue test env (eval test env)) (fun b s₂ => if b then wpAny M A (execs body env) (thenDo Q fun s => wpAny M A (execs rest env) Q E s) E s₂ else wpAny M A (execs orelse env) (thenDo Q fun s => wpAny M A (execs rest env) Q E s) E s₂) E s) :
    wpAny M A (execs (.If test body orelse pos :: rest) env) Q E s := wpAny_execs_cons (wpAny_If h)
theorem x_cont {pos : Pos} (h : Q .cont s) : wpAny M A (execs (.Continue pos :: rest) env) Q E s := wpAny_execs_cons (wpAny_Continue h)
theorem if_b {b : Bool} {p q : Prop} (ht : b = true → p) (hf : b = false → q) : if b = true then p else q := by cases b <;> simp_all
end

section
variable {σ : Sig} {A : Around} {E : Value → Shared → Prop} {L : Addr} {m m' : Know} {Fs : List (Addr × Know)} {M M' : Mut} {X X' : Led} {s s' : Shared} {env : Env} {Q : Value → Shared → Prop}

/-- the environment of a def's body -/
structure EnvIs (env : Env) (L : Addr) (ns : List (PySem.Str × NameKind)) (cs : List (PySem.Str × Addr)) : Prop where
  loc : env.locals = L
  kind : env.scope.kind = .function
  glob : env.globals = mainGlobals
  bui : env.builtins = builtinsNs
  cells : env.cells = cs
  look : ∀ p ∈ ns, env.scope.names.lookup p.1 = some p.2
  odd : ∀ p ∈ ns, (p.1 == ("__debug__" : PySem.Str)) = false ∧ (p.1 == ("__classdict__" : PySem.Str)) = false ∧ (p.1 == ("__name__" : PySem.Str)) = false
noncomputable def oddNames (ns : List (PySem.Str × NameKind)) : Bool := ns.all fun p => !(p.1 == ("__debug__" : PySem.Str)) && !(p.1 == ("__classdict__" : PySem.Str)) && !(p.1 == ("__name__" : PySem.Str))
theorem oddNames.says {ns : List (PySem.Str × NameKind)} (h : oddNames ns = true) : ∀ p ∈ ns, (p.1 == ("__debug__" : PySem.Str)) = false ∧ (p.1 == ("__classdict__" : PySem.Str)) = false ∧ (p.1 == ("__name__" : PySem.Str)) = false := fun p hp => by
  have := List.all_eq_true.mp h p hp
  simp only [Bool.and_eq_true, Bool.not_eq_true'] at this
  exact ⟨this.1.1, this.1.2, this.2⟩
noncomputable def lookNames (names ns : List (PySem.Str × NameKind)) : Bool := ns.all fun p => names.lookup p.1 == some p.2
theorem lookNames.says {names ns : List (PySem.Str × NameKind)} (h : lookNames names ns = true) : ∀ p ∈ ns, names.lookup p.1 = some p.2 := fun p hp => beq_iff_eq.mp (List.all_eq_true.mp h p hp)

/-- store into the list of what is known -/
inductive Put (x : PySem.Str) (v : Value) : Know → Know → Prop
  | hit {o r} : Put x v ((x, o) :: r) ((x, some (some v)) :: r)
  | miss {p r r'} : Put x v r r' → Put x v (p :: r) (p :: r')
theorem Put.names {x : PySem.Str} {v : Value} : ∀ {m m' : Know}, Put x v m m' → m'.map (·.1) = m.map (·.1)
  | _, _, .hit => rfl
  | _, _, .miss r => by simp [r.names]
theorem Put.mem {x : PySem.Str} {v : Value} : ∀ {m m' : Know}, Put x v m m' → x ∈ m.map (·.1)
  | _, _, .hit => .head _
  | _, _, .miss r => .tail _ r.mem
theorem Put.says {x : PySem.Str} {v : Value} {f : PySem.Str → Option Value} : ∀ {m m' : Know}, Put x v m m' → (m.map (·.1)).Nodup → (∀ p ∈ m, ∀ o, p.2 = some o → f p.1 = o) → ∀ p ∈ m', ∀ o, p.2 = some o → (if p.1 = x then some v else f p.1) = o
  | _, _, .hit, nd, hm, p, hp, o, ho => by
    rcases List.mem_cons.mp hp with rfl | hp
    · cases ho; simp
    · rw [if_neg (fun q => (List.nodup_cons.mp nd).1 (List.mem_map.mpr ⟨p, hp, q⟩))]; exact hm p (.tail _ hp) o ho
  | _, _, .miss r, nd, hm, p, hp, o, ho => by
    rcases List.mem_cons.mp hp with rfl | hp
    · rw [if_neg (fun q => (List.nodup_cons.mp nd).1 (by show p.1 ∈ _; rw [q]; exact r.mem))]; exact hm _ (.head _) o ho
    · exact r.says (List.nodup_cons.mp nd).2 (fun p hp => hm p (.tail _ hp)) p hp o ho

section
variable {ns : List (PySem.Str × NameKind)} {cs : List (PySem.Str × Addr)}
theorem r_local {x : PySem.Str} {pos : Pos} {v : Value} (S : St σ L m Fs M X s) (V : EnvIs env L ns cs) (hx : (x, NameKind.local) ∈ ns) (hm : (x, some (some v)) ∈ m) (h : Q v s) : wpAny σ.M A (eval (.Name x pos) env) Q E s := by
  obtain ⟨nd, f, hf, hp⟩ := S.cur
  exact wpAny_Name (wpAny_loadName_local V.kind (V.look _ hx) (V.loc ▸ hf) (hp _ hm _ rfl) h) (V.odd _ hx).1
theorem r_store {x : PySem.Str} {v : Value} {Q : Unit → Shared → Prop} (S : St σ L m Fs M X s) (V : EnvIs env L ns cs) (hx : (x, NameKind.local) ∈ ns) (U : Put x v m m') (h : ∀ s', St σ L m' Fs M X s' → Q () s') : wpAny σ.M A (storeName env x v) Q E s := by
  obtain ⟨nd, f, hf, hp⟩ := S.cur
  refine wpAny_storeName_local (V.look _ hx) (V.loc ▸ hf) (fun h' hn hs => h _ ?_) (by rw [V.kind]; rfl)
  have e := V.loc
  rw [e] at hn hs
  exact S.setCur (s' := { s with heap := h', toks := s.toks + 1 }) (fun b o hb e => (hs.2 b hb).trans e) ⟨by rw [U.names]; exact nd, _, hn, U.says nd hp⟩
theorem r_global {x : PySem.Str} {pos : Pos} {v : Value} (S : St σ L m Fs M X s) (V : EnvIs env L ns cs) (hx : (x, NameKind.globalImplicit) ∈ ns) (e : nsIn σ.K mainGlobals x = some (some v)) (h : Q v s) : wpAny σ.M A (eval (.Name x pos) env) Q E s :=
  Name_function_global V.kind (V.look _ hx) (loadGlobal_global (by rw [V.glob]; exact S.ok.g.keeps S.W) (mg_of S.ok.In S.ok.g e) h) (V.odd _ hx).1
theorem r_builtin {x : PySem.Str} {pos : Pos} {v : Value} (S : St σ L m Fs M X s) (V : EnvIs env L ns cs) (hx : (x, NameKind.globalImplicit) ∈ ns) (e : nsIn σ.K mainGlobals x = some none) (hv : bootBuiltins x = some v) (h : Q v s) : wpAny σ.M A (eval (.Name x pos) env) Q E s :=
  Name_function_global V.kind (V.look _ hx) (loadGlobal_builtin (by rw [V.glob]; exact S.ok.g.keeps S.W) (mg_none_of S.ok.In S.ok.g e) (by rw [V.bui]; exact S.ok.b.keeps S.W)
    ((S.ok.builtins x (fun q => by have := (V.odd _ hx).2.2; rw [q] at this; exact absurd this (by decide))).trans hv) h) (V.odd _ hx).1

noncomputable def CellP (v : Option Value) : Obj → Prop := fun o => o.data = .cell v
theorem r_cell {x : PySem.Str} {pos : Pos} {v : Value} {c : Addr} {k : NameKind} (S : St σ L m Fs M X s) (V : EnvIs env L ns cs) (hx : (x, k) ∈ ns) (hk : k = .cell ∨ k = .free) (hc : cs.lookup x = some c) (hm : (c, CellP (some v)) ∈ M) (h : Q v s) : wpAny σ.M A (eval (.Name x pos) env) Q E s := by
  rcases hk with rfl | rfl
  · exact wpAny_Name (wpAny_loadName_cell V.kind (V.look _ hx) (V.cells ▸ hc) (S.own _ hm) h) (V.odd _ hx).1
  · exact wpAny_Name (wpAny_loadName_free V.kind (V.look _ hx) (V.cells ▸ hc) (S.own _ hm) h (V.odd _ hx).2.1) (V.odd _ hx).1
theorem r_storeCell {x : PySem.Str} {v : Value} {v₀ : Option Value} {c : Addr} {Q : Unit → Shared → Prop} (S : St σ L m Fs M X s) (V : EnvIs env L ns cs) (hx : (x, NameKind.cell) ∈ ns) (hc : cs.lookup x = some c) (U : Ch c (CellP v₀) (CellP (some v)) M M') (h : ∀ s', St σ L m Fs M' X s' → Q () s') : wpAny σ.M A (storeName env x v) Q E s :=
  wpAny_storeName_cell V.kind (V.look _ hx) (V.cells ▸ hc) (S.own _ U.mem) fun h' hv hs => h _ (S.setMut (s' := { s with heap := h' }) U (fun b o hb e => (hs.2 b hb).trans e) hv)
end

noncomputable abbrev lst (vs : List Value) (n : Nat) : Obj := { cls := .type "list", dict := none, data := .seq vs.toArray n, slots := #[] }
noncomputable def LsP (vs : List Value) : Obj → Prop := fun o => ∃ n, o = lst vs n
noncomputable def IterP (l : Addr) (i : Nat) : Obj → Prop := fun o => o.cls = .type "list_iterator" ∧ o.data = .fields #[.ref l, .int i 0]

theorem r_int {i : Int} {k : Nat} {pos : Pos} (S : St σ L m Fs M X s) (h : ∀ t s', St σ L m Fs M X s' → Q (.int i t) s') : wpAny σ.M A (eval (.Constant (.int i) k pos) env) Q E s := wpAny_Constant_int (h _ _ (S.toks _))
theorem r_str {x : PySem.Str} {k : Nat} {pos : Pos} (S : St σ L m Fs M X s) (h : ∀ t s', St σ L m Fs M X s' → Q (.str x t) s') : wpAny σ.M A (eval (.Constant (.str x) k pos) env) Q E s := wpAny_Constant_str (h _ _ (S.toks _))
theorem r_add {a b : Int} {t u : Tok} (S : St σ L m Fs M X s) (h : ∀ t s', St σ L m Fs M X s' → Q (.int (a + b) t) s') : wpAny σ.M A (binaryOp .Add (.int a t) (.int b u)) Q E s := add_int (h _ _ (S.toks _))
theorem r_sub {a b : Int} {t u : Tok} (S : St σ L m Fs M X s) (h : ∀ t s', St σ L m Fs M X s' → Q (.int (a - b) t) s') : wpAny σ.M A (binaryOp .Sub (.int a t) (.int b u)) Q E s := sub_int (h _ _ (S.toks _))
theorem r_mod {a b : Int} {t u : Tok} (S : St σ L m Fs M X s) (hb : b ≠ 0) (h : ∀ t s', St σ L m Fs M X s' → Q (.int (a.fmod b) t) s') : wpAny σ.M A (binaryOp .Mod (.int a t) (.int b u)) Q E s := mod_int hb (h _ _ (S.toks _))
theorem r_div {a b : Int} {t u : Tok} (S : St σ L m Fs M X s) (hb : b ≠ 0) (hs : b.natAbs < 1073741824) (h : ∀ t s', St σ L m Fs M X s' → Q (.int (a.fdiv b) t) s') : wpAny σ.M A (binaryOp .FloorDiv (.int a t) (.int b u)) Q E s :=
  floordiv_int hb (h _ _ (S.toks _)) (.inl (PyProof.noPylong_small hs))
theorem r_neg {a : Int} {t : Tok} (S : St σ L m Fs M X s) (h : ∀ t s', St σ L m Fs M X s' → Q (.int (-a) t) s') : wpAny σ.M A (unaryOp .USub (.int a t)) Q E s := P.neg_int (h _ _ (S.toks _))

/-- lists -/
theorem r_items {pos : Pos} {e : Expr} {rest : List Expr} {Q : List Value → Shared → Prop}
    (h : wpAny σ.M A (eval e env) (fun v s₁ => wpAny σ.M A (spliced (backTo pos (starEach rest env))) (fun vs s₂ => Q (v :: vs) s₂) E s₁) E s)
    (he : starEach (e :: rest) env = (false, eval e env) :: starEach rest env := by rfl) : wpAny σ.M A (spliced (backTo pos (starEach (e :: rest) env))) Q E s := wpAny_items_cons h he
theorem r_newList {vs : List Value} (S : St σ L m Fs M X s) (h : ∀ a s', St σ L m Fs ((a, LsP vs) :: M) X s' → Q (.ref a) s') (hsz : vs.length ≤ sizeLine := by size_fits) : wpAny σ.M A (newList vs) Q E s :=
  wpAny_newObj_type (h _ _ (S.pushM ⟨_, rfl⟩)) (by show vs.toArray.size ≤ sizeLine; rw [List.size_toArray]; exact hsz)
noncomputable def TupO (vs : List Value) : Obj := { cls := .type "tuple", data := .seq vs.toArray }
theorem r_newTuple {vs : List Value} (S : St σ L m Fs M X s) (h : ∀ a s', St σ L m Fs M ((a, TupO vs) :: X) s' → Q (.ref a) s') (hsz : vs.length ≤ sizeLine := by size_fits) : wpAny σ.M A (newTuple vs) Q E s :=
  wpAny_newObj_type (h _ _ S.pushX) (by show vs.toArray.size ≤ sizeLine; rw [List.size_toArray]; exact hsz)

noncomputable def knowOf (binds : List (PySem.Str × Value)) (rest : List PySem.Str) : Know := binds.map (fun b => (b.1, some (some b.2))) ++ rest.map (fun x => (x, none))
end
end Mine

end
section
open PySem PySem.W PySem.Calls PyProof.Rows PySem.Spec
set_option Elab.async false
set_option maxRecDepth 100000
set_option linter.unusedVariables false
namespace Mine

theorem Ch.same {a : Addr} {P : Obj → Prop} : ∀ {M : Mut}, (a, P) ∈ M → Ch a P P M M
  | _ :: _, .head _ => .head
  | _ :: _, .tail _ h => .tail (Ch.same h)

/-- frozen: of the world, or written no more -/
noncomputable def Fz (σ : Sig) (X : Led) (a : Addr) (o : Obj) : Prop := σ.W₀.get? a = some o ∨ (a, o) ∈ X
theorem Fz.mono {σ : Sig} {X X' : Led} {a : Addr} {o : Obj} (h : Fz σ X a o) (hs : ∀ p ∈ X, p ∈ X') : Fz σ X' a o := h.imp id (hs _)
noncomputable def FzL (σ : Sig) (X : Led) (a : Addr) (vs : List Value) : Prop := ∃ o, Fz σ X a o ∧ LsP vs o
theorem FzL.mono {σ : Sig} {X X' : Led} {a : Addr} {vs : List Value} (h : FzL σ X a vs) (hs : ∀ p ∈ X, p ∈ X') : FzL σ X' a vs := let ⟨o, a, b⟩ := h; ⟨o, a.mono hs, b⟩

section
variable {σ : Sig} {A : Around} {E : Value → Shared → Prop} {L : Addr} {m m' : Know} {Fs : List (Addr × Know)} {M M' : Mut} {X X' : Led} {s s' : Shared} {env : Env} {Q : Value → Shared → Prop}

theorem St.get (S : St σ L m Fs M X s) {a : Addr} {o : Obj} (h : Fz σ X a o) : s.heap.get? a = some o := h.elim (S.W _ _) (S.fz (a, o))

/-- a method of a built-in type, the text's own argument list -/
noncomputable def OnIt (T : String) (v : Value) (s : Shared) : Prop := s.TypeIs v T ∧ ∀ a, v = .ref a → ∃ ob, s.heap.get? a = some ob ∧ ob.dict = none
theorem r_meth {o : Expr} {name : PySem.Str} {apos pos : Pos} {args : List Expr} {T id : String}
    (pa : PlainAttrs T) (slot : Slot T name id) (hty : typeOf (.builtin id) = pure (.type "method_descriptor"))
    (h : wpAny σ.M A (eval o env) (fun ov s₁ => OnIt T ov s₁ ∧ wpAny σ.M A (spliced (backTo pos (starEach args env))) (fun vs s₂ => wpAny σ.M A (call (.builtin id) (ov :: vs)) Q E s₂) E s₁) E s)
    (hbase : attributeBase o name env (eval o env) = eval o env := by rfl)
    (hfew : ((backTo pos (starEach args env)).all (fun x => !x.1) && (backToKw pos (keywordEach [] env)).all (fun x => x.1.isSome)
      && decide (args.length + ([] : List Keyword).length + (if ([] : List Keyword).isEmpty then 0 else 1) < 30)) = true := by rfl)
    (hline : (apos.endLine == pos.line) = true := by rfl) (hpl : (backTo pos (starEach args env)).any (·.1) = false := by rfl) :
    wpAny σ.M A (eval (.Call (.Attribute o name apos) args [] pos) env) Q E s := by
  refine wpAny_Call_method hbase hfew hline pa slot hty (wpAny_mono h (fun ov s₁ h₁ => ⟨h₁.1.1, h₁.1.2, callWith_builtin hpl ?_⟩) fun _ _ e => e)
  have h₂ := h₁.2
  cases hq : backTo pos (starEach args env) with
  | nil =>
    rw [hq] at h₂
    exact evalArgs_nil3 (by
      have : wpAny σ.M A (pure [] : Sem (List Value)) (fun vs s₂ => wpAny σ.M A (call (.builtin id) (ov :: vs)) Q E s₂) E s₁ := h₂
      exact fun Γ p hΓ => this Γ p hΓ Γ p hΓ)
  | cons x r =>
    rw [hq] at h₂ hpl
    obtain ⟨b, t⟩ := x
    have hb : b = false := by simpa using (Bool.or_eq_false_iff.mp hpl).1
    subst hb
    exact evalArgs_plain h₂
theorem on_own {a : Addr} {vs : List Value} (S : St σ L m Fs M X s) (hm : (a, LsP vs) ∈ M) : OnIt "list" (.ref a) s := by
  obtain ⟨_, ho, n, rfl⟩ := S.own _ hm
  exact ⟨⟨_, ho, rfl⟩, fun b e => by cases e; exact ⟨_, ho, rfl⟩⟩
theorem r_append {a : Addr} {vs : List Value} {v : Value} (S : St σ L m Fs M X s) (U : Ch a (LsP vs) (LsP (vs ++ [v])) M M') (hz : vs.length ≤ sizeLine) (h : ∀ s', St σ L m Fs M' X s' → Q .none s') :
    wpAny σ.M A (call (.builtin "list.append") [.ref a, v]) Q E s := by
  obtain ⟨_, ho, n, rfl⟩ := S.own _ U.mem
  refine call_meets F.slot_list_append ⟨_, ho, rfl⟩ F.entry_list_append (F.args_list_append_2 _ _) (list_append a _ n v (by simpa using hz)) ⟨ho, ?_⟩
  refine h _ (S.setMut U (fun b ob hb e => (Heap.get?_update_other _ _ (Ne.symm hb)).trans e) ⟨_, Heap.get?_update_self _ ho ?_, ?_⟩)
  · simp [Obj.mapSeq, Obj.isFreed]
  · simp [Obj.mapSeq, LsP]
theorem r_reverse {a : Addr} {vs : List Value} (S : St σ L m Fs M X s) (U : Ch a (LsP vs) (LsP vs.reverse) M M') (hz : vs.length ≤ sizeLine) (h : ∀ s', St σ L m Fs M' X s' → Q .none s') :
    wpAny σ.M A (call (.builtin "list.reverse") [.ref a]) Q E s := by
  obtain ⟨_, ho, n, rfl⟩ := S.own _ U.mem
  refine call_meets F.slot_list_reverse ⟨_, ho, rfl⟩ F.entry_list_reverse (F.args_list_reverse_1 _) (AutoSeq1.list_reverse_list_0 a _ n (by simpa using hz)) ⟨ho, ?_⟩
  refine h _ (S.setMut U (fun b ob hb e => (Heap.get?_update_other _ _ (Ne.symm hb)).trans e) ⟨_, Heap.get?_update_self _ ho ?_, ?_⟩)
  · simp [Obj.mapSeq, Obj.isFreed]
  · simp [Obj.mapSeq, LsP]
theorem x_expr {e : Expr} {pos : Pos} {rest : List Stmt} {Q : Flow → Shared → Prop} (h : wpAny σ.M A (eval e env) (fun v s' => v = .none ∧ wpAny σ.M A (execs rest env) Q E s') E s)
    (hi : interactive env = false := by rfl) (hs : swapsWith e none pos.line env = pure false := by rfl) : wpAny σ.M A (execs (.Expr e pos :: rest) env) Q E s :=
  wpAny_execs_cons (wpAny_Expr (wpAny_mono h (fun v s' h' => by obtain ⟨rfl, q⟩ := h'; exact q) fun _ _ e => e) hi hs)
theorem r_spl0 {pos : Pos} {Q : List Value → Shared → Prop} (h : Q [] s) : wpAny σ.M A (spliced (backTo pos (starEach [] env))) Q E s := wpAny_items_nil h

end
end Mine

end
section
open PySem PySem.W PySem.Calls PyProof.Rows PySem.Spec
set_option Elab.async false
set_option maxRecDepth 100000
set_option linter.unusedVariables false
namespace Mine
theorem Ch.symm {a : Addr} {P P' : Obj → Prop} : ∀ {M M' : Mut}, Ch a P P' M M' → Ch a P' P M' M
  | _, _, .head => .head
  | _, _, .tail r => .tail r.symm
theorem Ch.ex {a : Addr} {P : Obj → Prop} (P' : Obj → Prop) : ∀ {M : Mut}, (a, P) ∈ M → ∃ M', Ch a P P' M M'
  | _ :: _, .head _ => ⟨_, .head⟩
  | _ :: _, .tail _ h => let ⟨M', u⟩ := Ch.ex P' h; ⟨_, .tail u⟩
section
variable {σ : Sig} {A : Around} {E : Value → Shared → Prop} {L : Addr} {m m' : Know} {Fs : List (Addr × Know)} {M M' : Mut} {X X' : Led} {s s' : Shared} {env : Env} {Q : Value → Shared → Prop}

theorem St.listOwn {a : Addr} {vs : List Value} (S : St σ L m Fs M X s) (hm : (a, LsP vs) ∈ M) : s.heap.IsList a vs.toArray := by
  obtain ⟨_, ho, n, rfl⟩ := S.own _ hm
  exact ⟨_, ho, rfl, n, rfl⟩
theorem St.listFz {a : Addr} {vs : List Value} (S : St σ L m Fs M X s) (hm : FzL σ X a vs) : s.heap.IsList a vs.toArray := by
  obtain ⟨_, ho, n, rfl⟩ := hm
  exact ⟨_, S.get ho, rfl, n, rfl⟩
theorem Rm.un0 {A : Around} {k : Nat} {as : List Addr} (R : Rm A k as) : A.units + 64 < cLine := by have := R.un; omega

theorem r_lt {a b : Int} {t u : Tok} (h : Q (.bool (decide (a < b))) s) : wpAny σ.M A (compareOp .Lt (.int a t) (.int b u)) Q E s := lt_int h
theorem r_le {a b : Int} {t u : Tok} (h : Q (.bool (decide (a ≤ b))) s) : wpAny σ.M A (compareOp .LtE (.int a t) (.int b u)) Q E s := P.le_int h
theorem r_gt {a b : Int} {t u : Tok} (h : Q (.bool (decide (b < a))) s) : wpAny σ.M A (compareOp .Gt (.int a t) (.int b u)) Q E s := gt_int h
theorem r_ge {a b : Int} {t u : Tok} (h : Q (.bool (decide (b ≤ a))) s) : wpAny σ.M A (compareOp .GtE (.int a t) (.int b u)) Q E s := P.ge_int (by exact h)
theorem r_is {v : Value} (h : Q (.bool (v == .none)) s) : wpAny σ.M A (compareOp .Is v .none) Q E s := is_none h
theorem r_isNot {v : Value} (h : Q (.bool (!(v == .none))) s) : wpAny σ.M A (compareOp .IsNot v .none) Q E s := isNot_none h
theorem r_neInts {k : Nat} {as : List Addr} {a b : Addr} {xs ys : List Value} {ns ms : List Int} (R : Rm A k as) (ha : s.heap.IsList a xs.toArray) (hb : s.heap.IsList b ys.toArray) (hi : IntsAre xs ns) (hj : IntsAre ys ms) (h : Q (.bool (!decide (ns = ms))) s) :
    wpAny σ.M A (compareOp .NotEq (.ref a) (.ref b)) Q E s := ke_ne_ints ha hb hi hj R.un0 h
end
end Mine

end
section
open PySem PySem.W PySem.Calls PyProof.Rows PySem.Spec
set_option Elab.async false
set_option maxRecDepth 100000
set_option linter.unusedVariables false
namespace Mine
section
variable {σ : Sig} {A : Around} {E : Value → Shared → Prop} {L : Addr} {m m' : Know} {Fs : List (Addr × Know)} {M M' : Mut} {X X' : Led} {s s' : Shared} {env : Env} {Q : Value → Shared → Prop}
  {ns : List (PySem.Str × NameKind)} {cs : List (PySem.Str × Addr)}

noncomputable def Live (σ : Sig) (s : Shared) : Prop := σ.K.In s.heap
theorem St.live (S : St σ L m Fs M X s) : Live σ s := S.ok.In.keeps S.W

theorem args_split {pos : Pos} {f : Value} {args : List Expr} {Q : Args → Shared → Prop} (hpl : (backTo pos (starEach args env)).any (·.1) = false)
    (h : wpAny σ.M A (spliced (backTo pos (starEach args env))) (fun vs s₁ => Q ⟨vs, []⟩ s₁) E s) : wpAny σ.M A (evalArgs f true (backTo pos (starEach args env)) []) Q E s := by
  cases hq : backTo pos (starEach args env) with
  | nil =>
    rw [hq] at h
    exact fun Γ p hΓ => (evalArgs_nil3 (f := f) (Q := Q) (h Γ p hΓ)) Γ p hΓ
  | cons x r =>
    rw [hq] at h hpl
    obtain ⟨b, t⟩ := x
    have hb : b = false := by simpa using (Bool.or_eq_false_iff.mp hpl).1
    subst hb
    exact evalArgs_plain h
/-- f(..), f a def or a class of the text -/
theorem r_callD {x : PySem.Str} {np pos : Pos} {args : List Expr} {f : Addr} (S : St σ L m Fs M X s) (V : EnvIs env L ns cs) (hx : (x, NameKind.globalImplicit) ∈ ns) (e : nsIn σ.K mainGlobals x = some (some (.ref f))) (hk : keepIn σ.K (.ref f) = true)
    (h : wpAny σ.M A (spliced (backTo pos (starEach args env))) (fun vs s₁ => Live σ s₁ ∧ wpAny σ.M A (call (.ref f) vs) Q E s₁) E s)
    (hpl : (backTo pos (starEach args env)).any (·.1) = false := by rfl) : wpAny σ.M A (eval (.Call (.Name x np) args [] pos) env) Q E s := by
  refine wpAny_Call_ofName (r_global S V hx e ?_)
  exact callWith_of (P := fun h => σ.K.In h) (by rw [hpl]; rfl) (keeps_K hk) (args_split hpl h)
/-- f(..), f a built-in function -/
theorem r_callB {x : PySem.Str} {np pos : Pos} {args : List Expr} {id : String} (S : St σ L m Fs M X s) (V : EnvIs env L ns cs) (hx : (x, NameKind.globalImplicit) ∈ ns) (e : nsIn σ.K mainGlobals x = some none) (hv : bootBuiltins x = some (.builtin id))
    (h : wpAny σ.M A (spliced (backTo pos (starEach args env))) (fun vs s₁ => wpAny σ.M A (call (.builtin id) vs) Q E s₁) E s)
    (hpl : (backTo pos (starEach args env)).any (·.1) = false := by rfl) : wpAny σ.M A (eval (.Call (.Name x np) args [] pos) env) Q E s := by
  refine wpAny_Call_ofName (r_builtin S V hx e hv ?_)
  exact callWith_builtin hpl (args_split hpl h)
theorem r_callT {x : PySem.Str} {np pos : Pos} {args : List Expr} {T : String} (S : St σ L m Fs M X s) (V : EnvIs env L ns cs) (hx : (x, NameKind.globalImplicit) ∈ ns) (e : nsIn σ.K mainGlobals x = some none) (hv : bootBuiltins x = some (.type T))
    (h : wpAny σ.M A (spliced (backTo pos (starEach args env))) (fun vs s₁ => wpAny σ.M A (call (.type T) vs) Q E s₁) E s)
    (hpl : (backTo pos (starEach args env)).any (·.1) = false := by rfl) : wpAny σ.M A (eval (.Call (.Name x np) args [] pos) env) Q E s := by
  refine wpAny_Call_ofName (r_builtin S V hx e hv ?_)
  exact PyProof.Rows.callWith_type hpl (args_split hpl h)

/-- is None of what is known -/
theorem r_isT {v : Value} (e : (v == Value.none) = true) (h : Q (.bool true) s) : wpAny σ.M A (compareOp .Is v .none) Q E s := r_is (by rw [e]; exact h)
theorem r_isF {v : Value} (e : (v == Value.none) = false) (h : Q (.bool false) s) : wpAny σ.M A (compareOp .Is v .none) Q E s := r_is (by rw [e]; exact h)
theorem r_isNT {v : Value} (e : (v == Value.none) = false) (h : Q (.bool true) s) : wpAny σ.M A (compareOp .IsNot v .none) Q E s := r_isNot (by rw [e]; exact h)
theorem r_isNF {v : Value} (e : (v == Value.none) = true) (h : Q (.bool false) s) : wpAny σ.M A (compareOp .IsNot v .none) Q E s := r_isNot (by rw [e]; exact h)
theorem cmp1 {l : Expr} {op : CmpOp} {r : Expr} {pos : Pos} (h : wpAny σ.M A (eval l env) (fun a s₁ => wpAny σ.M A (eval r env) (fun b s₂ => wpAny σ.M A (compareOp op a b) Q E s₂) E s₁) E s) (hm : behindInMarks op r = false := by rfl) :
    wpAny σ.M A (eval (.Compare l [op] [r] pos) env) Q E s := wpAny_Compare1 h hm
theorem tcmp1 {l : Expr} {op : CmpOp} {r : Expr} {pos : Pos} {whole : Sem Value} {Q : Bool → Shared → Prop} (h : wpAny σ.M A (eval l env) (fun a s₁ => wpAny σ.M A (eval r env) (fun b s₂ => wpAny σ.M A (compareOp op a b) (fun c s₃ => wpAny σ.M A (truthy c) Q E s₃) E s₂) E s₁) E s) (hm : behindInMarks op r = false := by rfl) :
    wpAny σ.M A (isTrue (.Compare l [op] [r] pos) env whole) Q E s := wpAny_isTrue_Compare1 h hm
theorem tname {x : PySem.Str} {pos : Pos} {Q : Bool → Shared → Prop} (h : wpAny σ.M A (eval (.Name x pos) env) (fun v s₁ => wpAny σ.M A (truthy v) Q E s₁) E s) : wpAny σ.M A (isTrue (.Name x pos) env (eval (.Name x pos) env)) Q E s := isTrue_plain h
theorem tcall {f : Expr} {as : List Expr} {ks : List Keyword} {pos : Pos} {Q : Bool → Shared → Prop} (h : wpAny σ.M A (eval (.Call f as ks pos) env) (fun v s₁ => wpAny σ.M A (truthy v) Q E s₁) E s) : wpAny σ.M A (isTrue (.Call f as ks pos) env (eval (.Call f as ks pos) env)) Q E s := isTrue_plain h

/-- truth of a constant conclusion -/
theorem tru_T {Q : Bool → Shared → Prop} {b : Bool} (h : Q b s) : wpAny σ.M A (truthy (.bool b)) Q E s := wpAny_truthy_bool h
theorem Rm.low {k k' : Nat} {as : List Addr} (R : Rm A k as) (h : k' ≤ k) : Rm A k' as := R.le h fun _ h => h
end
end Mine

end
section
open PySem PySem.W PySem.Calls PyProof.Rows PySem.Spec
set_option Elab.async false
set_option maxRecDepth 100000
set_option linter.unusedVariables false
namespace Mine

structure IterOk (σ : Sig) (X₀ : Led) (n : Nat) (P : Nat → Obj → Prop) (V : Nat → Value → Prop) : Prop where
  item : ∀ {A : Around} {E : Value → Shared → Prop} {L : Addr} {m : Know} {Fs : List (Addr × Know)} {M : Mut} {X : Led} {s : Shared} {it : Addr} {i : Nat} {Q : Option Value → Shared → Prop}, i < n → (∀ p ∈ X₀, p ∈ X) → St σ L m Fs ((it, P i) :: M) X s →
    (∀ v s', V i v → St σ L m Fs ((it, P (i + 1)) :: M) X s' → Q (some v) s') → wpAny σ.M A (pyNext (.ref it)) Q E s
  fin : ∀ {A : Around} {E : Value → Shared → Prop} {L : Addr} {m : Know} {Fs : List (Addr × Know)} {M : Mut} {X : Led} {s : Shared} {it : Addr} {Q : Option Value → Shared → Prop}, A.handled = none → (∀ p ∈ X₀, p ∈ X) → St σ L m Fs ((it, P n) :: M) X s →
    (∀ s', St σ L m Fs M X s' → Q none s') → wpAny σ.M A (pyNext (.ref it)) Q E s
  self : ∀ {A : Around} {E : Value → Shared → Prop} {L : Addr} {m : Know} {Fs : List (Addr × Know)} {M : Mut} {X : Led} {s : Shared} {it : Addr} {i : Nat} {Q : Value → Shared → Prop}, St σ L m Fs ((it, P i) :: M) X s → Q (.ref it) s → wpAny σ.M A (pyIter (.ref it)) Q E s

noncomputable def LIterP (l : Addr) (i : Nat) : Obj → Prop := fun o => o.cls = .type "list_iterator" ∧ o.data = .fields #[.ref l, .int i 0]
noncomputable def RIterP (a c : Int) (n : Nat) (i : Nat) : Obj → Prop := fun o => o = { cls := .type "range_iterator", data := .fields #[rawInt (a + (i : Int) * c), rawInt ((n : Int) - (i : Int)), rawInt c] }

section
variable {σ : Sig} {A : Around} {E : Value → Shared → Prop} {L : Addr} {m m' : Know} {Fs : List (Addr × Know)} {M M' : Mut} {X X' : Led} {s s' : Shared} {env : Env} {Q : Value → Shared → Prop}
  {ns : List (PySem.Str × NameKind)} {cs : List (PySem.Str × Addr)}

/-- the head's own object goes, whatever became of it -/
theorem St.dropBut {a : Addr} {P : Obj → Prop} (S : St σ L m Fs ((a, P) :: M) X s) (hk : ∀ b o, b ≠ a → s.heap.get? b = some o → s'.heap.get? b = some o) (hg : s'.gens = s.gens := by rfl) (hd : s'.drawn = s.drawn := by rfl) (ho : s'.os = s.os := by rfl) : St σ L m Fs M X s' := by
  have D := S.dropM
  have hne : ∀ b ∈ L :: (Fs.map (·.1) ++ M.map (·.1)), b ≠ a := by
    have := S.nd
    simp only [List.map_cons, List.nodup_cons, List.mem_cons, List.mem_append, List.nodup_append, not_or] at this
    intro b hb
    simp only [List.mem_cons, List.mem_append] at hb
    rcases hb with rfl | hb | hb
    · exact this.1.2.1
    · exact this.2.2.2 b hb a (.inl rfl)
    · exact fun q => this.2.2.1.1 (q ▸ hb)
  have ha := S.new a (.tail _ (List.mem_append_right _ (.head _)))
  refine ⟨S.ok, hg.trans S.gens, hd.trans S.drawn, ho.trans S.os, fun b o e => hk b o (fun q => by rw [q, ha.1] at e; cases e) (S.W b o e), D.cur.keeps fun o e => hk _ o (hne _ (.head _)) e,
    fun p hp => (D.fs p hp).keeps fun o e => hk _ o (hne _ (.tail _ (List.mem_append_left _ (List.mem_map.mpr ⟨p, hp, rfl⟩)))) e, fun p hp => ?_, fun p hp => hk _ _ (ha.2 p hp) (S.fz p hp), D.nd, D.new⟩
  obtain ⟨o, x, y⟩ := D.own p hp
  exact ⟨o, hk _ _ (hne _ (.tail _ (List.mem_append_right _ (List.mem_map.mpr ⟨p, hp, rfl⟩)))) x, y⟩

theorem IterOk.list {l : Addr} {vs : List Value} (hl : FzL σ X l vs) : IterOk σ X vs.length (LIterP l) (fun i v => vs[i]? = some v) where
  item := by
    intro A E L m Fs M X₁ s it i Q hi hX S hq
    have hl' := S.listFz (hl.mono hX)
    refine wpAny_pyNext_list_item (S.own _ (.head _)) hl' (x := vs[i]) (by simp [hi]) fun h' hit hs => ?_
    exact hq _ _ (by simp [hi]) (S.setMut (s' := { s with heap := h' }) Ch.head (fun b o hb e => (hs.2 b hb).trans e) hit)
  fin := by
    intro A E L m Fs M X₁ s it Q hh hX S hq
    have hl' := S.listFz (hl.mono hX)
    refine wpAny_pyNext_list_end hh (S.own _ (.head _)) hl' (by simp) fun h' hs => ?_
    exact hq _ (S.dropBut (s' := { s with heap := h' }) fun b o hb e => hs b o hb e)
  self := by
    intro A E L m Fs M X₁ s it i Q S hq
    exact wpAny_pyIter_listiter (S.own _ (.head _)) hq

theorem IterOk.range (a c : Int) (n : Nat) : IterOk σ [] n (RIterP a c n) (fun i v => ∃ t, v = .int (a + (i : Int) * c) t) where
  item := by
    intro A E L m Fs M X₁ s it i Q hi hX S hq
    obtain ⟨_, ho, rfl⟩ := S.own _ (.head _)
    refine wpAny_pyNext_range_item ho (by omega) fun h' hit hs => ?_
    refine hq _ _ ⟨_, rfl⟩ (S.setMut (s' := { s with heap := h', toks := s.toks + 1 }) Ch.head (fun b o hb e => (hs.2 b hb).trans e) ⟨_, hit, ?_⟩)
    have e1 : a + ((i + 1 : Nat) : Int) * c = a + (i : Int) * c + c := by push_cast; rw [Int.add_mul, Int.one_mul, Int.add_assoc]
    have e2 : (n : Int) - ((i + 1 : Nat) : Int) = (n : Int) - (i : Int) - 1 := by push_cast; omega
    show _ = _
    rw [e1, e2]
  fin := by
    intro A E L m Fs M X₁ s it Q hh hX S hq
    obtain ⟨_, ho, rfl⟩ := S.own _ (.head _)
    exact wpAny_pyNext_range_end hh ho (by omega) fun h' hs => hq _ (S.dropBut (s' := { s with heap := h' }) fun b o hb e => hs b o hb e)
  self := by
    intro A E L m Fs M X₁ s it i Q S hq
    obtain ⟨_, ho, rfl⟩ := S.own _ (.head _)
    exact wpAny_pyIter_rangeiter ho hq
theorem r_iterList {l : Addr} {vs : List Value} (S : St σ L m Fs M X s) (hl : FzL σ X l vs) (h : ∀ it s', St σ L m Fs ((it, LIterP l 0) :: M) X s' → Q (.ref it) s') : wpAny σ.M A (pyIter (.ref l)) Q E s :=
  wpAny_pyIter_list (S.listFz hl) (h _ _ (S.pushM ⟨rfl, rfl⟩))

/-- for x in ..: -/
noncomputable def LoopAt (σ : Sig) (A : Around) (env : Env) (x : PySem.Str) (px : Pos) (body rest : List Stmt) (Q : Flow → Shared → Prop) (E : Value → Shared → Prop) (it : Value) (s : Shared) : Prop :=
  codeAny σ.M A (.forLoop (.Name x px) it body [] env) (fun r s' => match r with | .ok f => thenDo Q (fun s => wpAny σ.M A (execs rest env) Q E s) f s' | .error e => cameBackBy σ.M A env E e s') s
theorem x_for {x : PySem.Str} {px pos : Pos} {iter : Expr} {body rest : List Stmt} {Q : Flow → Shared → Prop}
    (h : wpAny σ.M A (eval iter env) (fun xv s₁ => wpAny σ.M A (pyIter xv) (fun it s₂ => LoopAt σ A env x px body rest Q E it s₂) E s₁) E s)
    (hs : ∀ x, foldedSetIterable iter env x = pure x := by intro _; rfl) : wpAny σ.M A (execs (.For (.Name x px) iter body [] pos :: rest) env) Q E s :=
  wpAny_execs_cons (wpAny_For (wpAny_mono h (fun xv s₁ h₁ => wpAny_mono h₁ (fun it s₂ h₂ => h₂) fun _ _ e => e) fun _ _ e => e) hs)
inductive TurnIs (σ : Sig) (L : Addr) (Fs : List (Addr × Know)) (it : Addr) (P : Obj → Prop) (X₀ : Led) (J : Know → Mut → Led → Prop) (s : Shared) : Prop
  | mk (m : Know) (M : Mut) (X : Led) (S : St σ L m Fs ((it, P) :: M) X s) (hX : ∀ p ∈ X₀, p ∈ X) (hJ : J m M X) : TurnIs σ L Fs it P X₀ J s
noncomputable def TurnEnd (σ : Sig) (L : Addr) (Fs : List (Addr × Know)) (it : Addr) (P : Obj → Prop) (X₀ : Led) (J : Know → Mut → Led → Prop) (Q : Flow → Shared → Prop) (f : Flow) (s : Shared) : Prop := match f with
  | .next => TurnIs σ L Fs it P X₀ J s
  | .cont => TurnIs σ L Fs it P X₀ J s
  | .ret v => Q (.ret v) s
  | .brk => False
theorem wpAny_absurd {α : Type} {MM : Model} {t : Sem α} {Q : α → Shared → Prop} (h : wpAny MM A t Q (fun _ _ => False) s) : wpAny MM A t Q E s := wpAny_mono h (fun _ _ x => x) fun _ _ f => f.elim
inductive LoopInv (σ : Sig) (L : Addr) (Fs : List (Addr × Know)) (it : Addr) (n : Nat) (P : Nat → Obj → Prop) (X₀ : Led) (J : Nat → Know → Mut → Led → Prop) (k : Nat) (s : Shared) : Prop
  | mk (i : Nat) (m : Know) (M : Mut) (X : Led) (hk : i + k = n) (S : St σ L m Fs ((it, P i) :: M) X s) (hX : ∀ p ∈ X₀, p ∈ X) (hJ : J i m M X) : LoopInv σ L Fs it n P X₀ J k s
theorem r_loop {it : Addr} {x : PySem.Str} {px : Pos} {body rest : List Stmt} {Q : Flow → Shared → Prop} {n : Nat} {P : Nat → Obj → Prop} {V : Nat → Value → Prop} {X₀ : Led} (J : Nat → Know → Mut → Led → Prop)
    (W : IterOk σ X₀ n P V) (hh : A.handled = none) (S : St σ L m Fs ((it, P 0) :: M) X s) (hX : ∀ p ∈ X₀, p ∈ X) (h0 : J 0 m M X)
    (turn : ∀ i v m M X s, i < n → V i v → J i m M X → (∀ p ∈ X₀, p ∈ X) → St σ L m Fs ((it, P (i + 1)) :: M) X s →
      wpAny σ.M A (storeName env x v) (fun _ s' => wpAny σ.M A (execs body env) (TurnEnd σ L Fs it (P (i + 1)) X₀ (J (i + 1)) Q) (fun _ _ => False) s') (fun _ _ => False) s)
    (done : ∀ m M X s, J n m M X → (∀ p ∈ X₀, p ∈ X) → St σ L m Fs M X s → wpAny σ.M A (execs rest env) Q E s) : LoopAt σ A env x px body rest Q E (.ref it) s := by
  refine codeAny_forLoop (LoopInv σ L Fs it n P X₀ J) (fun k s hI => ?_) n (.mk 0 m M X (Nat.zero_add _) S hX h0) (by intro _; rfl)
  clear S hX h0
  cases hI with
  | mk i m M X hk S hX hJ =>
    by_cases hi : i < n
    · refine W.item hi hX S fun v s' hv S' => ?_
      have step : ∀ {s}, TurnIs σ L Fs it (P (i + 1)) X₀ (J (i + 1)) s → ∃ k', k' < k ∧ LoopInv σ L Fs it n P X₀ J k' s := fun h =>
        let ⟨m', M', X', a, b, c⟩ := h; ⟨k - 1, by omega, .mk (i + 1) m' M' X' (by omega) a b c⟩
      refine wpAny_absurd (wpAny_mono (wpAny_assign_Name (turn i v m M X s' hi hv hJ hX S')) (fun _ s₂ h₂ => wpAny_absurd (wpAny_mono h₂ (fun f s₃ h₃ => ?_) fun _ _ f => f)) fun _ _ f => f)
      cases f with
      | next => exact step h₃
      | cont => exact step h₃
      | brk => exact h₃.elim
      | ret v => exact h₃
    · have e : i = n := by omega
      subst e
      exact W.fin hh hX S fun s' S' => wpAny_execs_nil (done m M X s' hJ hX S')
end
end Mine

end
section
open PySem PySem.W PySem.Calls PyProof.Rows PySem.Spec
set_option Elab.async false
set_option maxRecDepth 100000
set_option linter.unusedVariables false
namespace Mine

noncomputable def clList : List (PySem.Str × NameKind) → List (PySem.Str × Addr) → List (PySem.Str × Addr) → Option (List (PySem.Str × Addr))
  | [], _, acc => some acc
  | (n, k) :: r, cs, acc => if k == .free then (match cs.lookup n with | some a => clList r cs ((n, a) :: acc) | none => none) else clList r cs acc
theorem closure_of {scope : Scope} {env : Env} {cl : List (PySem.Str × Addr)} (h : clList scope.names env.cells [] = some cl) : closureFor scope env = pure cl := by
  have key : ∀ (l : List (PySem.Str × NameKind)) (acc : List (PySem.Str × Addr)), clList l env.cells acc = some cl →
      (forIn l acc fun x cs => if (x.2 == NameKind.free) = true then (do let a ← cellOf env x.1; pure (ForInStep.yield ((x.1, a) :: cs))) else pure (ForInStep.yield cs) : Sem (List (PySem.Str × Addr))) = pure cl := by
    intro l
    induction l with
    | nil => intro acc h; cases h; rfl
    | cons x r ih =>
      intro acc h
      obtain ⟨n, k⟩ := x
      rw [List.forIn_cons]
      unfold clList at h
      by_cases hk : (k == NameKind.free) = true
      · rw [if_pos hk] at h
        cases hl : env.cells.lookup n with
        | none => rw [hl] at h; cases h
        | some a =>
          rw [hl] at h
          have hc : cellOf env n = pure a := by unfold cellOf; rw [hl]
          simp only [hk, if_true, hc, pure_bind]
          exact ih _ h
      · rw [if_neg hk] at h
        simp only [hk]
        exact ih _ h
  have := key scope.names [] h
  unfold closureFor
  refine Eq.trans ?_ (bind_pure _ |>.trans this)
  rfl

noncomputable def freeAll (ns : List (PySem.Str × NameKind)) (names : List (PySem.Str × NameKind)) : Bool := names.all fun p => p.2 != .free || ns.lookup p.1 == some .cell
noncomputable def asCells (names : List (PySem.Str × NameKind)) : List (PySem.Str × NameKind) := names.map fun p => (p.1, if p.2 == .free then .cell else p.2)
section
variable {σ : Sig} {A : Around} {E : Value → Shared → Prop} {L : Addr} {m m' : Know} {Fs : List (Addr × Know)} {M M' : Mut} {X X' : Led} {s s' : Shared} {env : Env} {Q : Value → Shared → Prop}
  {ns : List (PySem.Str × NameKind)} {cs : List (PySem.Str × Addr)}

theorem relabel_names {scope : Scope} (V : EnvIs env L ns cs) (hf : freeAll ns scope.names = true) : (relabel scope env).names = asCells scope.names := by
  unfold relabel asCells
  show scope.names.map _ = scope.names.map _
  refine List.map_congr_left fun p hp => ?_
  obtain ⟨n, k⟩ := p
  have := List.all_eq_true.mp hf _ hp
  cases k <;> try rfl
  have h1 : ns.lookup n = some .cell := by simpa using this
  have h2 : env.kindOf n = some .cell := V.look (n, .cell) (mem_of_lookup h1)
  show (if (NameKind.free == NameKind.free && env.scope.kind == ScopeKind.function && env.kindOf n == some NameKind.cell) = true then (n, NameKind.cell) else (n, NameKind.free)) = _
  rw [h2, V.kind]
  rfl

/-- what stands when the iterator of a comprehension is made -/
noncomputable def CompAt (σ : Sig) (A : Around) (env : Env) (e : Expr) (scope : Scope) (cl : List (PySem.Str × Addr)) (E : Value → Shared → Prop) (use : Option (Value → Sem Unit)) (Q : Value → Shared → Prop) (it : Value) (s : Shared) : Prop :=
  wpAny σ.M A (newList []) (fun acc s₃ => wpAny σ.M A (newFunctionEnv scope env.globals cl [] env.qual none .none (some env)) (fun cenv s₄ =>
        codeAny σ.M A (.compStart e 0 it acc { cenv with scope := relabel scope env }) (compPost σ.M A E use Q acc cenv.locals) s₄) E s₃) E s

theorem r_comp {elt iter : Expr} {x : PySem.Str} {px pos : Pos} {ifs : List Expr} {scope : Scope} {cl : List (PySem.Str × Addr)} (V : EnvIs env L ns cs)
    (hcl : clList scope.names cs [] = some cl) (hlook : lookNames scope.names scope.names = true) 
    (h : wpAny σ.M A (eval iter env) (fun xv s₁ => wpAny σ.M A (pyIter xv) (fun it s₂ => CompAt σ A env (.ListComp elt [⟨.Name x px, iter, ifs, 0⟩] scope pos) scope cl E none Q it s₂) E s₁) E s)
    (hs : ∀ x, foldedSetIterable iter env x = pure x := by intro _; rfl) (hk : scope.kind = .function := by rfl) :
    wpAny σ.M A (eval (.ListComp elt [⟨.Name x px, iter, ifs, 0⟩] scope pos) env) Q E s := by
  rw [eval_ListComp]
  exact wpAny_comprehension_free (use := none) rfl hs (closure_of (by rw [V.cells]; exact hcl)) hk (fun y hy hl => hl ▸ lookNames.says hlook y hy) h
theorem x_acomp {elt iter : Expr} {x y : PySem.Str} {px py pos spos : Pos} {ifs : List Expr} {scope : Scope} {cl : List (PySem.Str × Addr)} {rest : List Stmt} {Q : Flow → Shared → Prop} (V : EnvIs env L ns cs)
    (hy : (y, NameKind.local) ∈ ns) (hsw : (py.line == pos.line && !(scope.names.any fun (n, k) => n == y && (k == .local || k == .cell))) = true)
    (hcl : clList scope.names cs [] = some cl) (hlook : lookNames scope.names scope.names = true)
    (h : wpAny σ.M A (eval iter env) (fun xv s₁ => wpAny σ.M A (pyIter xv) (fun it s₂ => CompAt σ A env (.ListComp elt [⟨.Name x px, iter, ifs, 0⟩] scope pos) scope cl E (some (assign (.Name y py) env)) (fun _ s' => wpAny σ.M A (execs rest env) Q E s') it s₂) E s₁) E s)
    (hs : ∀ x, foldedSetIterable iter env x = pure x := by intro _; rfl) (hk : scope.kind = .function := by rfl) :
    wpAny σ.M A (execs (.Assign [.Name y py] (.ListComp elt [⟨.Name x px, iter, ifs, 0⟩] scope pos) spos :: rest) env) Q E s := by
  have hsw' : swapsWith (.ListComp elt [⟨.Name x px, iter, ifs, 0⟩] scope pos) (some (.Name y py)) spos.line env = pure true := by
    have h2 : env.kindOf y = some .local := V.look _ hy
    have h3 : env.blockKind = .function := by
      unfold Env.blockKind; rw [V.kind]; rfl
    show (pure (env.blockKind == .function && env.kindOf y == some .local && py.line == pos.line && !(scope.names.any fun (n, k) => n == y && (k == .local || k == .cell))) : Sem Bool) = pure true
    rw [h2, h3]
    rw [Bool.and_assoc, hsw]
    rfl
  refine wpAny_execs_cons ?_
  rw [exec_Assign_Name_used _ _ _ _ hsw']
  refine wpAny_bind (wpAny_standAt (wpAny_bind ?_))
  show wpAny _ A (do let _ ← comprehension (.ListComp elt [⟨.Name x px, iter, ifs, 0⟩] scope pos) scope env _ (newList []) false (eval iter env) (some (assign (.Name y py) env))) _ _ s
  exact wpAny_bind (wpAny_mono (wpAny_comprehension_free (use := some (assign (.Name y py) env)) (Q := fun _ s' => wpAny σ.M A (execs rest env) Q E s') rfl hs (closure_of (by rw [V.cells]; exact hcl)) hk (fun y hy hl => hl ▸ lookNames.says hlook y hy)
    h) (fun _ s' hq => wpAny_pure (wpAny_pure hq)) fun _ _ e => e)

inductive CompEnd (σ : Sig) (C : Addr) (Fs : List (Addr × Know)) (mC : Know) (acc it : Addr) (ys : List Value) (P : Obj → Prop) (M : Mut) (X₀ : Led) (J : Led → Prop) (s : Shared) : Prop
  | mk (mC' : Know) (X : Led) (S : St σ C mC' Fs ((acc, LsP ys) :: (it, P) :: M) X s) (hm : mC'.map (·.1) = mC.map (·.1)) (hX : ∀ p ∈ X₀, p ∈ X) (hJ : J X) : CompEnd σ C Fs mC acc it ys P M X₀ J s
inductive CompInv (σ : Sig) (x : PySem.Str) (C : Addr) (Fs : List (Addr × Know)) (acc it : Addr) (n : Nat) (P : Nat → Obj → Prop) (M : Mut) (X₀ : Led) (J : Nat → List Value → Led → Prop) (k : Nat) (s : Shared) : Prop
  | mk (i : Nat) (o : Option (Option Value)) (ys : List Value) (X : Led) (hk : i + k = n) (hX : ∀ p ∈ X₀, p ∈ X) (hJ : J i ys X) (hlen : ys.length ≤ i) (S : St σ C [(x, o)] Fs ((acc, LsP ys) :: (it, P i) :: M) X s) : CompInv σ x C Fs acc it n P M X₀ J k s
theorem one_know {x : PySem.Str} {o : Option (Option Value)} {mC : Know} (h : mC.map (·.1) = [(x, o)].map (·.1)) : ∃ o, mC = [(x, o)] := by
  cases mC with
  | nil => cases h
  | cons p r => cases r with
    | nil =>
      have e : p.1 = x := (List.cons.inj h).1
      exact ⟨p.2, by rw [← e]⟩
    | cons q r => cases h
theorem comp_loop {elt iter : Expr} {x : PySem.Str} {px pos : Pos} {ifs : List Expr} {scope : Scope} {cl : List (PySem.Str × Addr)} {it : Addr} {n : Nat} {P : Nat → Obj → Prop} {Vp : Nat → Value → Prop} {X₀ : Led} {RR : Value → Addr → Result → Shared → Prop}
    (V : EnvIs env L ns cs) (hf : freeAll ns scope.names = true) (hlook : lookNames (asCells scope.names) (asCells scope.names) = true) (hodd : oddNames (asCells scope.names) = true) (hx : (x, NameKind.local) ∈ asCells scope.names)
    (J : Nat → List Value → Led → Prop) (W : IterOk σ X₀ n P Vp) (hh : A.handled = none) (hn : n ≤ sizeLine) (S : St σ L m Fs ((it, P 0) :: M) X s) (hX : ∀ p ∈ X₀, p ∈ X) (h0 : J 0 [] X)
    (turn : ∀ i v ys X C cenv acc s, i < n → Vp i v → J i ys X → (∀ p ∈ X₀, p ∈ X) → EnvIs cenv C (asCells scope.names) cl → St σ C [(x, some (some v))] ((L, m) :: Fs) ((acc, LsP ys) :: (it, P (i + 1)) :: M) X s →
      wpAny σ.M A (forIn ifs true fun c r => if r = true then do let ok ← isTrue c cenv (eval c cenv); pure (ForInStep.yield ok) else pure (ForInStep.yield r)) (fun ok s₃ =>
        if ok = true then wpAny σ.M A (eval elt cenv) (fun y s₄ => CompEnd σ C ((L, m) :: Fs) [(x, none)] acc it ys (P (i + 1)) M X₀ (fun X => J (i + 1) (ys ++ [y]) X) s₄) (fun _ _ => False) s₃
        else CompEnd σ C ((L, m) :: Fs) [(x, none)] acc it ys (P (i + 1)) M X₀ (fun X => J (i + 1) ys X) s₃) (fun _ _ => False) s)
    (done : ∀ ys X C acc s mC, J n ys X → (∀ p ∈ X₀, p ∈ X) → St σ C mC ((L, m) :: Fs) ((acc, LsP ys) :: M) X s → RR (.ref acc) C (.ok .next) s)
    (hc : ∀ y ∈ scope.names, y.2 ≠ .cell) (hk : scope.kind = .function) :
    wpAny σ.M A (newList []) (fun acc s₃ => wpAny σ.M A (newFunctionEnv scope env.globals cl [] env.qual none .none (some env)) (fun cenv s₄ =>
        codeAny σ.M A (.compStart (.ListComp elt [⟨.Name x px, iter, ifs, 0⟩] scope pos) 0 (.ref it) acc { cenv with scope := relabel scope env }) (RR acc cenv.locals) s₄) E s₃) E s := by
  refine r_newList S fun acc s₁ S₁ => ?_
  refine wpAny_newFunctionEnv hc (by intro y hy; simp at hy) (fun h' hns hsb => ?_) hk
  have S₂ := (S₁.grow (s' := { s₁ with heap := h', toks := s₁.toks + 0 }) fun b o e => hsb.extBut b o (Nat.ne_of_lt (Heap.lt_size e)) (Heap.get?_push_of_some _ e)).enter (L' := s₁.heap.objs.size) (m' := [(x, none)])
    ⟨by simp, _, hns, fun p hp o ho => by
      rcases List.mem_cons.mp hp with rfl | hp
      · cases ho
      · cases hp⟩ S₁.fresh S₁.freshW S₁.freshX
  have Vc : EnvIs (compEnvC scope cl s₁.heap.objs.size env) s₁.heap.objs.size (asCells scope.names) cl := by
    refine ⟨rfl, hk, V.glob, V.bui, rfl, fun p hp => ?_, oddNames.says hodd⟩
    show (relabel scope env).names.lookup p.1 = some p.2
    rw [relabel_names V hf]
    exact lookNames.says hlook p hp
  clear hsb hns S₁
  generalize s₁.heap.objs.size = C at S₂ Vc
  have l0 : codeAny σ.M A (.compLoop (.ListComp elt [⟨.Name x px, iter, ifs, 0⟩] scope pos) 0 (.ref it) (.ref acc) (compEnvC scope cl C env)) (RR (.ref acc) C) { s₁ with heap := h', toks := s₁.toks + 0 } := by
    refine codeAny_compLoop_tests (CompInv σ x C ((L, m) :: Fs) acc it n P M X₀ J) (fun k s hI => ?_) n (.mk 0 none [] X (Nat.zero_add _) hX h0 (Nat.le_refl _) S₂) (by intro _; rfl)
    clear S₂ h0 hX S
    cases hI with
    | mk i o ys X hk hX hJ hlen S' =>
      have Sp := S'.permM (List.Perm.swap (it, P i) (acc, LsP ys) M)
      by_cases hi : i < n
      · refine W.item hi hX Sp fun v s' hv Sv => ?_
        have Sv := Sv.permM (List.Perm.swap (acc, LsP ys) (it, P (i + 1)) M)
        have hk1 : k - 1 < k := Nat.sub_lt (Nat.pos_of_ne_zero fun e => by rw [e, Nat.add_zero] at hk; exact Nat.ne_of_lt hi hk) Nat.one_pos
        have hk2 : i + 1 + (k - 1) = n := by omega
        have hz : ys.length < sizeLine := Nat.lt_of_lt_of_le (Nat.lt_of_le_of_lt hlen hi) hn
        clear Sp S'
        refine wpAny_absurd (wpAny_assign_Name (r_store Sv Vc hx .hit fun s₂ S₂ => wpAny_absurd (wpAny_mono (turn i v ys X _ _ acc s₂ hi hv hJ hX Vc S₂) (fun ok s₃ h₃ => ?_) fun _ _ f => f)))
        clear Sv S₂
        cases ok with
        | true =>
          rw [if_pos rfl] at h₃
          rw [if_pos rfl]
          refine wpAny_absurd (wpAny_mono h₃ (fun y s₄ h₄ => ?_) fun _ _ f => f)
          cases h₄ with
          | mk mC' X' S₄ hm' hX' hJ' =>
            obtain ⟨o', rfl⟩ := one_know hm'
            exact r_append S₄ .head (Nat.le_of_lt hz) fun s₅ S₅ => ⟨k - 1, hk1, .mk (i + 1) o' (ys ++ [y]) X' hk2 hX' hJ' (by rw [List.length_append]; exact Nat.succ_le_succ hlen) S₅⟩
        | false =>
          rw [if_neg Bool.false_ne_true] at h₃
          rw [if_neg Bool.false_ne_true]
          cases h₃ with
          | mk mC' X' S₄ hm' hX' hJ' =>
            obtain ⟨o', rfl⟩ := one_know hm'
            exact ⟨k - 1, hk1, .mk (i + 1) o' ys X' hk2 hX' hJ' (Nat.le_succ_of_le hlen) S₄⟩
      · have e : i = n := by omega
        subst e
        exact W.fin hh hX Sp fun s' Sd => done ys X _ acc s' _ hJ hX Sd
  exact codeAny_compStart_list l0 (W.self (S₂.permM (List.Perm.swap (it, P 0) (acc, LsP []) M)) l0)

end
end Mine

end
section
open PySem PySem.W PySem.Calls PyProof.Rows PySem.Spec
set_option Elab.async false
set_option maxRecDepth 100000
set_option linter.unusedVariables false
namespace Mine


section
variable {σ : Sig} {A : Around} {E : Value → Shared → Prop} {L : Addr} {m m' : Know} {Fs : List (Addr × Know)} {M M' : Mut} {X X' : Led} {s s' : Shared} {env : Env} {Q : Value → Shared → Prop}
  {ns : List (PySem.Str × NameKind)} {cs : List (PySem.Str × Addr)}

theorem r_item {value slice : Expr} {l : Addr} {vs : List Value} {k : Int} {u : Tok} {v : Value} (hl : s.heap.IsList l vs.toArray) (h0 : 0 ≤ k) (hx : vs[k.toNat]? = some v) (hz : k < 2 ^ 63) (h : Q v s)
    (hs : subscripted slice false (.ref l) (.int k u) = operate [.ref l, .int k u] (getItem (.ref l) (.int k u)) := by rfl) :
    wpAny σ.M A (subscriptTail value slice (.ref l) (.int k u)) Q E s :=
  tail_any hl.typeIs slot_list_getitem.lookup (wpAny_getItem_list hl h0 hz (by simpa using hx) h) hs
theorem r_itemT {value slice : Expr} {a : Addr} {vs : List Value} {k : Int} {u : Tok} {v : Value} (S : St σ L m Fs M X s) (ht : Fz σ X a (TupO vs)) (h0 : 0 ≤ k) (hz : k < 2 ^ 63) (hx : vs[k.toNat]? = some v) (h : Q v s)
    (hs : subscripted slice false (.ref a) (.int k u) = operate [.ref a, .int k u] (getItem (.ref a) (.int k u)) := by rfl) :
    wpAny σ.M A (subscriptTail value slice (.ref a) (.int k u)) Q E s := by
  have hlt : k.toNat < vs.length := (List.getElem?_eq_some_iff.mp hx).1
  refine item_tupleT (l := vs) (j := k.toNat) ⟨_, S.get ht, rfl, 0, rfl⟩ (by omega) hz ?_ hx h hs
  unfold seqIndex?
  have h1 : ¬ k < 0 := by omega
  have h2 : ¬ (vs.length : Int) ≤ k := by omega
  simp [h1]
  omega
theorem r_len {l : Addr} {vs : List Value} (S : St σ L m Fs M X s) (hl : s.heap.IsList l vs.toArray) (hz : vs.length < 2 ^ 63) (h : ∀ t s', St σ L m Fs M X s' → Q (.int vs.length t) s') : wpAny σ.M A (call (.builtin "len") [.ref l]) Q E s := by
  refine call_len_list hl (by simp; omega) ?_
  have := h (s.toks + 1) _ (S.toks (s.toks + 1 + 1))
  simpa using this
theorem r_chr {i : Int} {t : Tok} (S : St σ L m Fs M X s) (h0 : 0 ≤ i) (h1 : i ≤ 1114111) (h : ∀ t s', St σ L m Fs M X s' → Q (.str ⟨#[i.toNat]⟩ t) s') : wpAny σ.M A (call (.builtin "chr") [.int i t]) Q E s :=
  chr_of_range h0 h1 (h _ _ (S.toks _))
theorem r_abs {a : Int} {t : Tok} (S : St σ L m Fs M X s) (h : ∀ t s', St σ L m Fs M X s' → Q (.int (if a < 0 then -a else a) t) s') : wpAny σ.M A (call (.builtin "abs") [.int a t]) Q E s :=
  call_abs_int fun u tk => h u _ (S.toks tk)
theorem r_range1 {n : Int} {t : Tok} (S : St σ L m Fs M X s) (h : ∀ r u v s' X', X' = (r, ({ cls := .type "range", data := .fields #[.int 0 u, .int n t, .int 1 v] } : Obj)) :: X → St σ L m Fs M X' s' → Q (.ref r) s') : wpAny σ.M A (call (.type "range") [.int n t]) Q E s :=
  call_range_1 (h _ _ _ _ _ rfl ((S.pushX (o := { cls := .type "range", data := .fields #[.int 0 s.toks, .int n t, .int 1 (s.toks + 1)] })).toks _))
theorem r_iterRange {r : Addr} {n : Int} {t u v : Tok} (S : St σ L m Fs M X s) (hr : (r, ({ cls := .type "range", data := .fields #[.int 0 u, .int n t, .int 1 v] } : Obj)) ∈ X) (h0 : 0 ≤ n) (hz : n < 2 ^ 40) (h : ∀ it s', St σ L m Fs ((it, RIterP 0 1 n.toNat 0) :: M) X s' → Q (.ref it) s') :
    wpAny σ.M A (pyIter (.ref r)) Q E s := by
  have hsz : Builtin.Range.rangeSize 0 n 1 = (n.toNat : Int) := by
    unfold Builtin.Range.rangeSize
    simp only [Int.one_pos, if_true]
    split
    · simp; omega
    · simp; omega
  have hsm : Builtin.Range.small 0 n 1 = true := by
    unfold Builtin.Range.small
    simp only [hsz, Builtin.Range.rangeFitsLong, Int.one_pos, if_true, Bool.and_eq_true, Bool.or_eq_true, decide_eq_true_eq]
    omega
  refine wpAny_pyIter_range (S.fz _ hr) hsm (h _ _ (S.pushM ?_))
  show _ = _
  rw [hsz]
  simp [rawInt]
end
end Mine

end
section
open PySem PySem.W PySem.Calls PyProof.Rows PySem.Spec
set_option Elab.async false
set_option maxRecDepth 100000
set_option maxHeartbeats 8000000
namespace Mine
noncomputable abbrev KK (σ : Sig) : Prop := σ.K = frag σ.w.params
theorem b_len : bootBuiltins (Str.ofString "len") = some (.builtin "len") := by boot_by_name
theorem b_list : bootBuiltins (Str.ofString "list") = some (.type "list") := by boot_by_name
theorem b_range : bootBuiltins (Str.ofString "range") = some (.type "range") := by boot_by_name
theorem b_abs : bootBuiltins (Str.ofString "abs") = some (.builtin "abs") := by boot_by_name
theorem b_max : bootBuiltins (Str.ofString "max") = some (.builtin "max") := by boot_by_name
theorem b_chr : bootBuiltins (Str.ofString "chr") = some (.builtin "chr") := by boot_by_name
theorem b_isinstance : bootBuiltins (Str.ofString "isinstance") = some (.builtin "isinstance") := by boot_by_name
theorem b_str : bootBuiltins (Str.ofString "str") = some (.type "str") := by boot_by_name
theorem g_Refusal {σ : Sig} (hK : KK σ) : nsIn σ.K mainGlobals (Str.ofString "Refusal") = some (some (.ref 75)) := by rw [hK]; kernel_rfl
end Mine

end
section
open PySem PySem.W PySem.Calls PyProof.Rows PySem.Spec
set_option Elab.async false
set_option maxRecDepth 100000
set_option linter.unusedVariables false
namespace Mine

set_option genSizeOf false
inductive PV where
  | none | bool (b : Bool) | int (i : Int) | str (x : PySem.Str)
  | list (l : List PV) | tup (l : List PV)
  | sd (ks : List PySem.Str) (vs : List PV)
  | idt (ks : List Int)
  | vec (kind : PySem.Str) (items attrs : PV)
  | null | missing | row | rng (n : Int)

inductive Fld where | kind | items | attrs
noncomputable def Fld.name : Fld → PySem.Str
  | .kind => "kind" | .items => "items" | .attrs => "attrs"
inductive Bi where | len | abs | chr | list | range | max | isVec | isStr

set_option genInjectivity false
inductive IE where
  | var (i : Nat) | lit (p : PV)
  | bin (op : Operator) (a b : IE) | neg (a : IE) | not (a : IE)
  | cmp (op : CmpOp) (a b : IE) | inv (op : CmpOp) (a : IE) (i : Nat)
  | and (a b : IE) | or (a b : IE) | ite (c a b : IE)
  | list (es : List IE) | tup (es : List IE) | dict0 | dict1 (k : PySem.Str) (e : IE)
  | idx (a b : IE) | fld (f : Fld) (a : IE) | getm (a b : IE) | lidx (a b : IE)
  | call (f : Addr) (es : List IE) | bi (b : Bi) (a : IE) | max2 (a b : IE)
  | fst (x : PySem.Str) (e : IE) (y : PySem.Str)
  | lc (d : Nat) (elt it : IE) (cond : Option IE) | dc (d : Nat) (key val it : IE)
  | kept (e : IE) | bad

inductive IS where
  | asg (i : Nat) (e : IE) | newL (i : Nat) | newD (i : Nat) | newV (i : Nat) (k it : IE)
  | app (i : Nat) (e : IE) | seti (i : Nat) (k e : IE) | frz (i : Nat)
  | ite (c : IE) (t f : List IS) | ret (e : IE) | cont
  | for (i : Nat) (it : IE) (body : List IS)
  | raise (e : IE)
  | keep (i : Nat) (e : IE) | named (i : Nat) (e : IE) | setA (i : Nat) (k : PySem.Str) (e : IE) | ensA (i : Nat) | setAI (i : Nat) (k : PySem.Str) (e : IE)
  | bad

/-- the translation -/
inductive BiN where | len | abs | chr | list | range | max | isinstance | str
noncomputable def BiN.val : BiN → Value
  | .len => .builtin "len" | .abs => .builtin "abs" | .chr => .builtin "chr" | .list => .type "list" | .range => .type "range" | .max => .builtin "max" | .isinstance => .builtin "isinstance" | .str => .type "str"
inductive Gl where | fn (f : Addr) | bi (x : BiN) | no
structure Cx where
  ns : List (PySem.Str × NameKind)
  ix : List (PySem.Str × Nat)
  d : Nat
  own : List PySem.Str
  G : PySem.Str → Gl
  tb : Bool := false

noncomputable def noStar (es : List Expr) : Bool := es.all fun e => match e with | .Starred .. => false | _ => true
noncomputable def isVar (cx : Cx) (x : PySem.Str) : Option Nat := match cx.ns.lookup x with
  | some .local | some .cell | some .free => cx.ix.lookup x
  | _ => none
noncomputable def glo (cx : Cx) (x : PySem.Str) : Gl := if cx.ns.lookup x == some .globalImplicit then cx.G x else .no
noncomputable def constI : Const → IE
  | .none => .lit .none | .bool b => .lit (.bool b) | .int i => .lit (.int i) | .str x => .lit (.str x) | _ => .bad
/-- the names that a comprehension sees -/
noncomputable def inComp (cx : Cx) (x : PySem.Str) (scope : Scope) : Cx :=
  { cx with ns := asCells scope.names, d := cx.d + 1, ix := scope.names.filterMap fun p => match p.2 with
      | .local => if p.1 == x then some (p.1, cx.d) else none | .free => (isVar cx p.1).map fun i => (p.1, i) | _ => none }
/-- the names that a lambda without parameters sees -/
noncomputable def inLam (cx : Cx) (scope : Scope) : Cx :=
  { cx with ns := scope.names, ix := scope.names.filterMap fun p => match p.2 with
      | .free => (isVar cx p.1).map fun i => (p.1, i) | _ => none }
noncomputable def lamOk (cx : Cx) (scope : Scope) : Bool :=
  scope.names.all (fun p => p.2 == .globalImplicit || (p.2 == .free && cx.ns.lookup p.1 == some .cell)) && lookNames scope.names scope.names && oddNames scope.names && scope.kind == .function && !scope.isGenerator && !scope.isCoroutine
noncomputable def compOk (cx : Cx) (x : PySem.Str) (scope : Scope) : Bool :=
  freeAll cx.ns scope.names && lookNames scope.names scope.names && lookNames (asCells scope.names) (asCells scope.names) && oddNames (asCells scope.names) &&
    (asCells scope.names).lookup x == some .local && scope.names.all (fun p => p.2 != .cell) && scope.kind == .function

set_option genSizeOf true
set_option genInjectivity true
/-- small readers of the syntax, one layer each -/
noncomputable def one? {α : Type} : List α → Option α
  | [] => none
  | a :: l => match l with | [] => some a | _ :: _ => none
noncomputable def two? {α : Type} : List α → Option (α × α)
  | [] => none
  | a :: l => (one? l).map fun b => (a, b)
noncomputable def three? {α : Type} : List α → Option (α × α × α)
  | [] => none
  | a :: l => (two? l).map fun p => (a, p)
theorem one_eq {α : Type} {l : List α} {a : α} (h : one? l = some a) : l = [a] := by
  cases l with
  | nil => cases h
  | cons b t => cases t with
    | nil => cases h; rfl
    | cons _ _ => cases h
theorem two_eq {α : Type} {l : List α} {p : α × α} (h : two? l = some p) : l = [p.1, p.2] := by
  cases l with
  | nil => cases h
  | cons b t =>
    obtain ⟨c, h1, h2⟩ := Option.map_eq_some_iff.mp (show (one? t).map (fun c => (b, c)) = some p from h)
    rw [one_eq h1, ← h2]
theorem three_eq {α : Type} {l : List α} {p : α × α × α} (h : three? l = some p) : l = [p.1, p.2.1, p.2.2] := by
  cases l with
  | nil => cases h
  | cons b t =>
    obtain ⟨c, h1, h2⟩ := Option.map_eq_some_iff.mp (show (two? t).map (fun c => (b, c)) = some p from h)
    rw [two_eq h1, ← h2]
theorem nS {α : Type} {a : α} {P : Prop} (h : none = some a) : P := nomatch h
theorem fT {P : Prop} (h : false = true) : P := nomatch h
set_option genSizeOf false
set_option genInjectivity false
/-- one layer of an expression -/
inductive Vw where
  | name (x : PySem.Str) (p : Pos) | con (c : Const) (k : Nat) (p : Pos) | dict (ks : List (Option Expr)) (vs : List Expr) (p : Pos) | call (g : Expr) (es : List Expr) (ks : List Keyword) (p : Pos)
  | fv (e : Expr) (c : Int) (sp : Option Expr) (p : Pos) | lam (as : Arguments) (b : Expr) (sc : Scope) (p : Pos) | att (a : Expr) (x : PySem.Str) (p : Pos) | cmp (a : Expr) (ops : List CmpOp) (bs : List Expr) (p : Pos)
  | ife (c a b : Expr) (p : Pos) | lst (es : List Expr) (p : Pos) | sub (a b : Expr) (p : Pos) | star (a : Expr) (p : Pos) | oth (e : Expr)
set_option genSizeOf true
set_option genInjectivity true
noncomputable def vw (e : Expr) : Vw := match e with
  | .Name x p => .name x p | .Constant c k p => .con c k p | .Dict ks vs p => .dict ks vs p | .Call g es ks p => .call g es ks p | .FormattedValue e c sp p => .fv e c sp p | .Lambda as b sc p => .lam as b sc p
  | .Attribute a x p => .att a x p | .Compare a ops bs p => .cmp a ops bs p | .IfExp c a b p => .ife c a b p | .List es p => .lst es p | .Subscript a b p => .sub a b p | .Starred a p => .star a p | e => .oth e
noncomputable def Vw.un : Vw → Expr
  | .name x p => .Name x p | .con c k p => .Constant c k p | .dict ks vs p => .Dict ks vs p | .call g es ks p => .Call g es ks p | .fv e c sp p => .FormattedValue e c sp p | .lam as b sc p => .Lambda as b sc p
  | .att a x p => .Attribute a x p | .cmp a ops bs p => .Compare a ops bs p | .ife c a b p => .IfExp c a b p | .lst es p => .List es p | .sub a b p => .Subscript a b p | .star a p => .Starred a p | .oth e => e
theorem un_vw (e : Expr) : (vw e).un = e := by cases e <;> rfl
theorem vwE {P : Expr → Vw → Prop} (h : ∀ v : Vw, P v.un v) (e : Expr) : P e (vw e) := (un_vw e).subst (motive := fun x => P x (vw e)) (h (vw e))
noncomputable def asName (e : Expr) : Option PySem.Str := match vw e with
  | .name x _ => some x | _ => none
noncomputable def cStr : Const → Option PySem.Str
  | .str x => some x | _ => none
noncomputable def asStr (e : Expr) : Option PySem.Str := match vw e with
  | .con c _ _ => cStr c | _ => none
noncomputable def cNone : Const → Bool
  | .none => true | _ => false
noncomputable def isNone (e : Expr) : Bool := match vw e with
  | .con c _ _ => cNone c | _ => false
noncomputable def isD0 (e : Expr) : Bool := match vw e with
  | .dict ks vs _ => ks.isEmpty && vs.isEmpty | _ => false
noncomputable def isCall0 (e : Expr) : Bool := match vw e with
  | .call _ es _ _ => es.isEmpty | _ => false
noncomputable def isMemb : CmpOp → Bool
  | .In => true | .NotIn => true | _ => false
noncomputable def isIs : CmpOp → Bool
  | .Is => true | _ => false
noncomputable def fldOf (x : PySem.Str) : Option Fld := if x == "kind" then some .kind else if x == "items" then some .items else if x == "attrs" then some .attrs else none
noncomputable def biOne : BiN → Option Bi
  | .len => some .len | .abs => some .abs | .chr => some .chr | .list => some .list | .range => some .range | .max => some .max | _ => none
noncomputable def isFn (g : Gl) (n : Nat) : Bool := match g with | .fn f => f == n | _ => false
noncomputable def isStrB (g : Gl) : Bool := match g with | .bi b => (match b with | .str => true | _ => false) | _ => false
noncomputable def asFv (e : Expr) : Option Expr := match vw e with
  | .fv e c sp _ => if c == -1 && sp.isNone then some e else none
  | _ => none
noncomputable def asGen (g : Comprehension) : Option PySem.Str := if g.is_async == 0 then asName g.target else none
noncomputable def oStr : Option Expr → Option PySem.Str
  | none => none | some e => asStr e
noncomputable def onE {α β : Type} (o : Option α) (d : β) (g : α → β) : β := match o with
  | some a => g a
  | none => d
noncomputable def onS {α : Type} (o : Option α) (g : α → IE) : IE := onE o .bad g
noncomputable def onL {α : Type} (o : Option α) (g : α → List IS) : List IS := onE o [.bad] g
section
variable (f : Expr → IE) (cx : Cx)
noncomputable def armU (op : UnaryOp) (a : Expr) : IE := match op with | .USub => .neg (f a) | .Not => .not (f a) | _ => .bad
noncomputable def armC (a : Expr) (op : CmpOp) (b : Expr) : IE :=
  if behindInMarks op b then .bad else onE (asName b) (.cmp op (f a) (f b)) fun x => if isMemb op && cx.own.contains x then onS (isVar cx x) fun i => .inv op (f a) i else .cmp op (f a) (f b)
noncomputable def armCs (a : Expr) (ops : List CmpOp) (bs : List Expr) : IE := onS (one? ops) fun op => onS (one? bs) fun b => armC f cx a op b
noncomputable def armB (op : BoolOp) (es : List Expr) : IE := match op with
  | .And => onE (two? es) (onS (three? es) fun p => .and (f p.1) (.and (f p.2.1) (f p.2.2))) fun p => .and (f p.1) (f p.2)
  | .Or => onS (two? es) fun p => .or (f p.1) (f p.2)
noncomputable def armD (ks : List (Option Expr)) (es : List Expr) : IE := if ks.isEmpty && es.isEmpty then .dict0 else onS (one? ks) fun k => onS (oStr k) fun x => onS (one? es) fun e => .dict1 x (f e)
noncomputable def armA (a : Expr) (x : PySem.Str) : IE := if isCall0 a then .bad else onS (fldOf x) fun fl => .fld fl (f a)
noncomputable def armM (a : Expr) (x : PySem.Str) (ap : Pos) (es : List Expr) (p : Pos) : IE := if isCall0 a then .bad else onS (one? es) fun b =>
  if ap.endLine == p.line && noStar [b] then (if x == "get" then .getm (f a) (f b) else if x == "index" then .lidx (f a) (f b) else .bad) else .bad
noncomputable def armI (a : Expr) (g : Gl) : IE := if isFn g 246 then .bi .isVec (f a) else if isStrB g then .bi .isStr (f a) else .bad
noncomputable def armBi2 (b : BiN) (p : Expr × Expr) : IE := match b with
  | .max => .max2 (f p.1) (f p.2)
  | .isinstance => onS (asName p.2) fun y => armI f p.1 (glo cx y)
  | _ => .bad
noncomputable def armBi (b : BiN) (es : List Expr) : IE := if noStar es then onE (one? es) (onS (two? es) fun p => armBi2 f cx b p) fun a => onS (biOne b) fun b' => .bi b' (f a)
  else .bad
noncomputable def armN (x : PySem.Str) (es : List Expr) : IE := match glo cx x with
  | .fn a => if a == 498 then .bad else if noStar es then .call a (es.map f) else .bad
  | .bi b => armBi f cx b es
  | .no => .bad
noncomputable def armCall (g : Expr) (es : List Expr) (p : Pos) : IE := match g with
  | .Attribute a x ap => armM f a x ap es p
  | .Name x _ => armN f cx x es
  | _ => .bad
noncomputable def armJ (es : List Expr) : IE := onS (three? es) fun t => onS (asStr t.1) fun a => onS (asStr t.2.2) fun b => onS (asFv t.2.1) fun e => .fst a (f e) b
end
section
variable (f : Cx → Expr → IE) (cx : Cx)
noncomputable def armL (elt : Expr) (gs : List Comprehension) (sc : Scope) : IE := onS (one? gs) fun g => onS (asGen g) fun x =>
  if compOk cx x sc && decide (g.ifs.length ≤ 1) then .lc cx.d (f (inComp cx x sc) elt) (f cx g.iter) (g.ifs.head?.map (f (inComp cx x sc))) else .bad
noncomputable def armDc (k v : Expr) (gs : List Comprehension) (sc : Scope) : IE := onS (one? gs) fun g => onS (asGen g) fun x =>
  if compOk cx x sc && g.ifs.isEmpty then .dc cx.d (f (inComp cx x sc) k) (f (inComp cx x sc) v) (f cx g.iter) else .bad
noncomputable def armE (e : Expr) : IE := match e with
  | .Constant c _ _ => constI c
  | .Name x _ => onS (isVar cx x) fun i => .var i
  | .BinOp a op b _ => .bin op (f cx a) (f cx b)
  | .UnaryOp op a _ => armU (f cx) op a
  | .Compare a ops bs _ => armCs (f cx) cx a ops bs
  | .BoolOp op es _ => armB (f cx) op es
  | .IfExp c a b _ => .ite (f cx c) (f cx a) (f cx b)
  | .List es _ => if noStar es then .list (es.map (f cx)) else .bad
  | .Tuple es _ _ => if noStar es then .tup (es.map (f cx)) else .bad
  | .Dict ks es _ => armD (f cx) ks es
  | .Subscript a b _ => .idx (f cx a) (f cx b)
  | .Attribute a x _ => armA (f cx) a x
  | .Call g es ks p => if ks.isEmpty then armCall (f cx) cx g es p else .bad
  | .JoinedStr es _ => armJ (f cx) es
  | .ListComp elt gs sc _ => armL f cx elt gs sc
  | .DictComp k v gs sc _ => armDc f cx k v gs sc
  | _ => .bad
end
noncomputable def compE : Nat → Cx → Expr → IE
  | 0, _, _ => .bad
  | n + 1, cx, e => armE (compE n) cx e

mutual
noncomputable def rdE : IE → List Nat
  | .var i => [i] | .bin _ a b | .cmp _ a b | .and a b | .or a b | .idx a b | .getm a b | .lidx a b | .max2 a b => rdE a ++ rdE b
  | .neg a | .not a | .inv _ a _ | .dict1 _ a | .fld _ a | .bi _ a | .fst _ a _ | .kept a => rdE a
  | .ite a b c | .dc _ a b c => rdE a ++ rdE b ++ rdE c
  | .list es | .tup es | .call _ es => rdEs es
  | .lc _ a b c => rdE a ++ rdE b ++ rdO c
  | _ => []
noncomputable def rdEs : List IE → List Nat
  | [] => [] | e :: es => rdE e ++ rdEs es
noncomputable def rdO : Option IE → List Nat
  | none => [] | some e => rdE e
end
noncomputable def frzs (cx : Cx) (e : IE) : List IS := ((rdE e).eraseDups.filter fun i => cx.own.any fun x => isVar cx x == some i).map .frz

noncomputable def argsNo (a : Arguments) : Bool := a.posonlyargs.isEmpty && a.args.isEmpty && a.vararg.isNone && a.kwonlyargs.isEmpty && a.kw_defaults.isEmpty && a.kwarg.isNone && a.defaults.isEmpty
noncomputable def asLam (e : Expr) : Option (Expr × Scope) := match vw e with
  | .lam as b sc _ => if argsNo as then some (b, sc) else none
  | _ => none
/-- what stands on the right of a store into a name -/
inductive Rhs where | l0 | d0 | lam (g : PySem.Str) (b : Expr) (sc : Scope) | two (g : PySem.Str) (a b : Expr) | o
noncomputable def rhsC (g : PySem.Str) (es : List Expr) : Rhs := onE (one? es) (onE (two? es) .o fun p => .two g p.1 p.2) fun l => onE (asLam l) .o fun p => .lam g p.1 p.2
noncomputable def rhsG (g : Expr) (es : List Expr) : Rhs := onE (asName g) .o fun x => rhsC x es
noncomputable def rhsV (v : Vw) : Rhs := match v with
  | .lst es _ => if es.isEmpty then .l0 else .o
  | .dict ks vs _ => if ks.isEmpty && vs.isEmpty then .d0 else .o
  | .call g es ks _ => if ks.isEmpty then rhsG g es else .o
  | _ => .o
noncomputable def rhsOf (e : Expr) : Rhs := rhsV (vw e)
noncomputable def attrsOf (e : Expr) : Option PySem.Str := match vw e with
  | .att a x _ => if x == "attrs" then asName a else none
  | _ => none
noncomputable def asD1 (e : Expr) : Option (PySem.Str × Expr) := match vw e with
  | .dict ks vs _ => (one? ks).bind fun k => (oStr k).bind fun x => (one? vs).bind fun v => some (x, v)
  | _ => none
noncomputable def asIsN (e : Expr) : Option Expr := match vw e with
  | .cmp a ops bs _ => (one? ops).bind fun op => (one? bs).bind fun b => if isIs op && isNone b then some a else none
  | _ => none
noncomputable def isEns (x : PySem.Str) (e : Expr) : Bool := match vw e with
  | .ife c a b _ => (match asIsN c with | some u => attrsOf u == some x && attrsOf b == some x && isD0 a | none => false)
  | _ => false
section
variable (cx : Cx)
noncomputable def stAsg (i : Nat) (e : Expr) : List IS := frzs cx (compE 60 cx e) ++ [.asg i (compE 60 cx e)]
noncomputable def stKeep (i : Nat) (b : Expr) (sc : Scope) : List IS := frzs cx (compE 60 (inLam cx sc) b) ++ [.keep i (compE 60 (inLam cx sc) b)]
noncomputable def stNewV (i : Nat) (a b : Expr) : List IS := frzs cx (compE 59 cx a) ++ (frzs cx (compE 59 cx b) ++ [.newV i (compE 59 cx a) (compE 59 cx b)])
noncomputable def stRhs (x : PySem.Str) (e : Expr) (i : Nat) : List IS := match rhsOf e with
  | .l0 => [.newL i]
  | .d0 => [.newD i]
  | .lam g b sc => if isFn (glo cx g) 498 && (lamOk cx sc && cx.tb) then stKeep cx i b sc else [.bad]
  | .two g a b => if cx.own.contains x && (isFn (glo cx g) 246 && noStar [a, b]) then stNewV cx i a b else stAsg cx i e
  | .o => stAsg cx i e
noncomputable def stName (x : PySem.Str) (e : Expr) : List IS := onL (isVar cx x) fun i => stRhs cx x e i
noncomputable def stAttrs (i : Nat) (x : PySem.Str) (e : Expr) : List IS := onE (asD1 e) (if isEns x e then [.ensA i] else [.bad]) fun p => frzs cx (compE 60 cx p.2) ++ [.setA i p.1 (compE 60 cx p.2)]
noncomputable def stItem (i : Nat) (k e : Expr) : List IS := frzs cx (compE 60 cx k) ++ (frzs cx (compE 60 cx e) ++ [.seti i (compE 60 cx k) (compE 60 cx e)])
noncomputable def stItemA (i : Nat) (k e : Expr) : List IS := onL (asStr k) fun x => frzs cx (compE 60 cx e) ++ [.setAI i x (compE 60 cx e)]
noncomputable def stSub (a k e : Expr) : List IS := onE (attrsOf a) (onL (asName a) fun x => onL (isVar cx x) fun i => stItem cx i k e) fun x => onL (isVar cx x) fun i => stItemA cx i k e
noncomputable def stAssign (t e : Expr) : List IS := match t with
  | .Name x _ => stName cx x e
  | .Attribute a f _ => onL (asName a) fun x => if f == "attrs" then onL (isVar cx x) fun i => stAttrs cx i x e else [.bad]
  | .Subscript a k _ => stSub cx a k e
  | _ => [.bad]
noncomputable def stApp (i : Nat) (e : Expr) : List IS := frzs cx (compE 60 cx e) ++ [.app i (compE 60 cx e)]
noncomputable def stNamed (i : Nat) (e : Expr) : List IS := frzs cx (compE 60 cx e) ++ [.named i (compE 60 cx e)]
noncomputable def stMeth (a : Expr) (f : PySem.Str) (ap : Pos) (es : List Expr) (p : Pos) : List IS := onL (asName a) fun x => onL (isVar cx x) fun i => onL (one? es) fun e => if f == "append" && (ap.endLine == p.line && noStar [e]) then stApp cx i e else [.bad]
noncomputable def stCall2 (f : PySem.Str) (es : List Expr) : List IS := onL (two? es) fun p => onL (asName p.1) fun x => onL (isVar cx x) fun i => if isFn (glo cx f) 293 && noStar [p.2] then stNamed cx i p.2 else [.bad]
noncomputable def stX (e : Expr) : List IS := match e with
  | .Call g es ks p => if ks.isEmpty then (match g with
    | .Attribute a f ap => stMeth cx a f ap es p
    | .Name f _ => stCall2 cx f es
    | _ => [.bad]) else [.bad]
  | _ => [.bad]
noncomputable def stRet (e : Option Expr) : List IS := onL e fun e => frzs cx (compE 60 cx e) ++ [.ret (compE 60 cx e)]
noncomputable def stRz (g : Expr) (es : List Expr) : List IS := onL (asName g) fun x => onL (one? es) fun e => if isFn (glo cx x) 75 && noStar [e] then frzs cx (compE 60 cx e) ++ [.raise (compE 60 cx e)] else [.bad]
noncomputable def stRaise1 (e : Expr) : List IS := match vw e with | .call g es ks _ => if ks.isEmpty then stRz cx g es else [.bad] | _ => [.bad]
noncomputable def stRaise (e : Option Expr) : List IS := onL e (stRaise1 cx)
noncomputable def stFor (g : List Stmt → List IS) (t it : Expr) (body : List Stmt) : List IS := onL (asName t) fun x => onL (isVar cx x) fun i => frzs cx (compE 60 cx it) ++ [.for i (compE 60 cx it) (g body)]
noncomputable def armS (g : List Stmt → List IS) (s : Stmt) : List IS := match s with
  | .Assign ts e _ => onL (one? ts) fun t => stAssign cx t e
  | .Expr e _ => stX cx e
  | .If c t f _ => frzs cx (compE 60 cx c) ++ [.ite (compE 60 cx c) (g t) (g f)]
  | .Return e _ => stRet cx e
  | .Continue _ => [.cont]
  | .For t it body els _ => if els.isEmpty then stFor cx g t it body else [.bad]
  | .Raise e c _ => if c.isNone then stRaise cx e else [.bad]
  | _ => [.bad]
end
noncomputable def compSs : Nat → Cx → List Stmt → List IS
  | 0, _, _ => [.bad]
  | n + 1, cx, ss => match ss with
    | [] => []
    | s :: r => armS cx (compSs n cx) s ++ compSs n cx r
noncomputable def cxOf (G : PySem.Str → Gl) (ns : List (PySem.Str × NameKind)) (own : List PySem.Str) : Cx := { ns := ns, ix := ns.zipIdx.map fun p => (p.1.1, p.2), d := ns.length, own := own, G := G }

inductive Bd where
  | u | tab | v (p : PV) | ol (l : List PV) | os (ks : List PySem.Str) (vs : List PV) | oi (ks : List Int) | ov (kind : PySem.Str) (items : PV) (attrs : Option (List PySem.Str × List PV))
inductive Fl where | next | cont | ret (p : PV)

noncomputable def lookP : List PySem.Str → List PV → PySem.Str → Option PV
  | k :: ks, v :: vs, x => if k = x then some v else lookP ks vs x
  | _, _, _ => none
noncomputable def putP : List PySem.Str → List PV → PySem.Str → PV → List PySem.Str × List PV
  | k :: ks, v :: vs, x, p => if k = x then (k :: ks, p :: vs) else let r := putP ks vs x p; (k :: r.1, v :: r.2)
  | _, _, x, p => ([x], [p])
theorem lk_0 {l : List PV} {x : PySem.Str} : lookP [] l x = none := rfl
theorem lk_c {k : PySem.Str} {ks : List PySem.Str} {v : PV} {vs : List PV} {x : PySem.Str} : lookP (k :: ks) (v :: vs) x = (if k = x then some v else lookP ks vs x) := rfl
theorem pt_0 {l : List PV} {x : PySem.Str} {p : PV} : putP [] l x p = ([x], [p]) := rfl
theorem pt_c {k : PySem.Str} {ks : List PySem.Str} {v : PV} {vs : List PV} {x : PySem.Str} {p : PV} : putP (k :: ks) (v :: vs) x p = if k = x then (k :: ks, p :: vs) else (k :: (putP ks vs x p).1, v :: (putP ks vs x p).2) := rfl
noncomputable def isN : PV → Bool
  | .none => true | _ => false
/-- scalars -/
noncomputable def eqS : PV → PV → Option Bool
  | .int a, .int b => some (a == b) | .str a, .str b => some (a == b) | .none, .none => some true
  | .none, .int _ | .none, .str _ | .int _, .none | .str _, .none => some false
  | _, _ => none
/-- may be held against its like: inside, and at the top -/
noncomputable def eqIn : Nat → PV → Bool
  | _, .none | _, .int _ | _, .str _ | _, .bool _ => true
  | n + 1, .list l | n + 1, .tup l => l.all (eqIn n)
  | _, .sd [] [] => true
  | _, _ => false
noncomputable def eqT3 (a b c : PV) : Bool := match a with
  | .str _ => (match c with | .sd _ vs => eqIn 6 b && vs.all (eqIn 6) | _ => false)
  | _ => false
noncomputable def eqTop : PV → Bool
  | .tup l => eqIn 6 (.tup l) || (match three? l with | some t => eqT3 t.1 t.2.1 t.2.2 | none => false)
  | _ => false
theorem eqTop3 {x : PySem.Str} {q : PV} {ks : List PySem.Str} {vs : List PV} (h1 : eqIn 6 q = true) (h2 : vs.all (eqIn 6) = true) : eqTop (.tup [.str x, q, .sd ks vs]) = true := (Bool.or_eq_true _ _).mpr (.inr ((Bool.and_eq_true _ _).mpr ⟨h1, h2⟩))
noncomputable def binP (op : Operator) (p q : PV) (Q : PV → Prop) : Prop := match op with
  | .Add => match p, q with | .int a, .int b => Q (.int (a + b)) | _, _ => False
  | .Sub => match p, q with | .int a, .int b => Q (.int (a - b)) | _, _ => False
  | .Mod => match p, q with | .int a, .int b => b ≠ 0 ∧ Q (.int (a.fmod b)) | _, _ => False
  | .FloorDiv => match p, q with | .int a, .int b => b ≠ 0 ∧ b.natAbs < 1073741824 ∧ Q (.int (a.fdiv b)) | _, _ => False
  | _ => False
noncomputable def eqP (p q : PV) (Q : Bool → Prop) : Prop := match eqS p q with
  | some b => Q b
  | none => match p, q with
    | .list l, .list [] => Q l.isEmpty
    | .list l, q => q = .list l ∧ eqIn 6 (.list l) = true ∧ Q true
    | .tup l, q => q = .tup l ∧ eqTop (.tup l) = true ∧ Q true
    | _, _ => False
noncomputable def inP (p q : PV) (Q : Bool → Prop) : Prop := match q with
  | .list l | .tup l => (∀ y ∈ l, (eqS y p).isSome) ∧ Q (l.any fun y => eqS y p == some true)
  | .sd ks _ => match p with | .str x => Q (decide (x ∈ ks)) | _ => False
  | .idt ks => match p with | .int x => Q (decide (x ∈ ks)) | _ => False
  | _ => False
noncomputable def cmpP (op : CmpOp) (p q : PV) (Q : Bool → Prop) : Prop := match op with
  | .Is => match q with | .none => Q (isN p) | _ => False
  | .IsNot => match q with | .none => Q (!isN p) | _ => False
  | .Eq => eqP p q Q
  | .NotEq => eqP p q fun b => Q (!b)
  | .In => inP p q Q
  | .NotIn => inP p q fun b => Q (!b)
  | .Lt => match p, q with | .int a, .int b => Q (decide (a < b)) | _, _ => False
  | .LtE => match p, q with | .int a, .int b => Q (decide (a ≤ b)) | _, _ => False
  | .Gt => match p, q with | .int a, .int b => Q (decide (b < a)) | _, _ => False
  | .GtE => match p, q with | .int a, .int b => Q (decide (b ≤ a)) | _, _ => False
noncomputable def truP (p : PV) (Q : Bool → Prop) : Prop := match p with
  | .bool b => Q b | .none => Q false | _ => False
noncomputable def idxP (p q : PV) (Q : PV → Prop) : Prop := match p, q with
  | .list l, .int i | .tup l, .int i => 0 ≤ i ∧ i < 2 ^ 40 ∧ (match l[i.toNat]? with | some p => Q p | none => False)
  | .sd ks vs, .str x => (match lookP ks vs x with | some p => Q p | none => False)
  | _, _ => False
noncomputable def fldP (f : Fld) (p : PV) (Q : PV → Prop) : Prop := match f, p with
  | .kind, .vec k _ _ => Q (.str k) | .items, .vec _ i _ => Q i | .attrs, .vec _ _ a => Q a
  | .kind, .null => Q (.str "NULL") | .attrs, .null => Q .none
  | .kind, .missing => Q (.str "missing") | .attrs, .missing => Q .none
  | _, _ => False
noncomputable def negP (p : PV) (Q : PV → Prop) : Prop := match p with | .int i => Q (.int (-i)) | _ => False
noncomputable def getmP (p q : PV) (Q : PV → Prop) : Prop := match p, q with | .sd ks vs, .str x => Q ((lookP ks vs x).getD .none) | _, _ => False
noncomputable def isSd (p : PV) : Prop := match p with | .sd .. => True | _ => False
noncomputable def isLst (p : PV) : Prop := match p with | .list _ => True | _ => False
noncomputable def lidxP (p q : PV) (Q : PV → Prop) : Prop := match p with
  | .list l => (∀ y ∈ l, (eqS y q).isSome) ∧ l.length < 2 ^ 40 ∧ (match l.findIdx? fun y => eqS y q == some true with | some i => Q (.int i) | none => False)
  | _ => False
noncomputable def invP (op : CmpOp) (b : Option Bd) (p : PV) (Q : Bool → Prop) : Prop := match op, b, p with
  | .In, some (.os ks _), .str x => Q (decide (x ∈ ks))
  | .NotIn, some (.os ks _), .str x => Q (!decide (x ∈ ks))
  | .In, some (.oi ks), .int x => Q (decide (x ∈ ks))
  | .NotIn, some (.oi ks), .int x => Q (!decide (x ∈ ks))
  | .In, some (.v q), p => inP p q Q
  | .NotIn, some (.v q), p => inP p q fun b => Q (!b)
  | _, _, _ => False
noncomputable def max2P (p q : PV) (Q : PV → Prop) : Prop := match p, q with | .int a, .int b => Q (.int (if a < b then b else a)) | _, _ => False
noncomputable def fstP (x y : PySem.Str) (p : PV) (Q : PV → Prop) : Prop := match p with | .str z => (x ++ z ++ y).length ≤ 1000 ∧ Q (.str (x ++ z ++ y)) | _ => False
noncomputable def rngL (n : Int) : List PV := (List.range n.toNat).map fun (i : Nat) => PV.int (i : Int)
noncomputable def biP (b : Bi) (p : PV) (Q : PV → Prop) : Prop := match b, p with
  | .len, .list l => l.length < 2 ^ 40 ∧ Q (.int l.length)
  | .len, .sd ks _ => ks.length < 2 ^ 40 ∧ Q (.int ks.length)
  | .len, .idt ks => ks.length < 2 ^ 40 ∧ Q (.int ks.length)
  | .abs, .int a => Q (.int (if a < 0 then -a else a))
  | .chr, .int i => 0 ≤ i ∧ i ≤ 1114111 ∧ Q (.str ⟨#[i.toNat]⟩)
  | .list, .list l => l.length ≤ 2 ^ 20 ∧ Q (.list l)
  | .list, .rng n => 0 ≤ n ∧ n ≤ 2 ^ 20 ∧ Q (.list (rngL n))
  | .range, .int n => Q (.rng n)
  | .max, .list l => ∃ ns, l = ns.map PV.int ∧ ns ≠ [] ∧ ∀ a ∈ ns, (∀ b ∈ ns, b ≤ a) → Q (.int a)
  | .isVec, .vec .. => Q (.bool true)
  | .isStr, .str _ => Q (.bool true) | .isStr, .vec .. => Q (.bool false) | .isStr, .null => Q (.bool false) | .isStr, .tup _ => Q (.bool false)
  | _, _ => False
noncomputable def iterP (p : PV) : Option (List PV) := match p with
  | .list l => some l
  | .rng n => @ite _ (0 ≤ n ∧ n < 2 ^ 40) (Classical.propDecidable _) (some (rngL n)) none
  | .sd ks _ => some (ks.map .str)
  | _ => none
noncomputable def wpLc (body : PV → (Option PV → Prop) → Prop) : List PV → List PV → (List PV → Prop) → Prop
  | [], acc, Q => Q acc
  | v :: l, acc, Q => body v fun o => match o with | some y => wpLc body l (acc ++ [y]) Q | none => wpLc body l acc Q
noncomputable def wpDc (key val : PV → (PV → Prop) → Prop) : List PV → List PySem.Str × List PV → (List PySem.Str × List PV → Prop) → Prop
  | [], acc, Q => Q acc
  | v :: l, acc, Q => key v fun k => match k with | .str x => val v fun y => wpDc key val l (putP acc.1 acc.2 x y) Q | _ => False

section
variable (C : Nat → Addr → List PV → (PV → Prop) → (PySem.Str → Prop) → Prop)
mutual
noncomputable def wpE (k : Nat) (ρ : List Bd) (e : IE) (Q : PV → Prop) (R : PySem.Str → Prop) : Prop := match e with
  | .var i => (match ρ[i]? with | some (.v p) => Q p | _ => False)
  | .lit p => Q p
  | .bin op a b => wpE k ρ a (fun p => wpE k ρ b (fun q => binP op p q Q) R) R
  | .neg a => wpE k ρ a (fun p => negP p Q) R
  | .not a => wpE k ρ a (fun p => truP p fun b => Q (.bool !b)) R
  | .cmp op a b => wpE k ρ a (fun p => wpE k ρ b (fun q => cmpP op p q fun b => Q (.bool b)) R) R
  | .inv op a i => wpE k ρ a (fun p => invP op ρ[i]? p fun b => Q (.bool b)) R
  | .and a b => wpE k ρ a (fun p => truP p fun t => (t = true → wpE k ρ b Q R) ∧ (t = false → Q p)) R
  | .or a b => wpE k ρ a (fun p => truP p fun t => (t = true → Q p) ∧ (t = false → wpE k ρ b Q R)) R
  | .ite c a b => wpT k ρ c (fun t => (t = true → wpE k ρ a Q R) ∧ (t = false → wpE k ρ b Q R)) R
  | .list es => wpEs k ρ es (fun ps => ps.length ≤ 100 ∧ Q (.list ps)) R
  | .tup es => wpEs k ρ es (fun ps => ps.length ≤ 100 ∧ Q (.tup ps)) R
  | .dict0 => Q (.sd [] [])
  | .dict1 x e => wpE k ρ e (fun p => Q (.sd [x] [p])) R
  | .idx a b => wpE k ρ a (fun p => wpE k ρ b (fun q => idxP p q Q) R) R
  | .fld f a => wpE k ρ a (fun p => fldP f p Q) R
  | .getm a b => wpE k ρ a (fun p => isSd p ∧ wpE k ρ b (fun q => getmP p q Q) R) R
  | .lidx a b => wpE k ρ a (fun p => isLst p ∧ wpE k ρ b (fun q => lidxP p q Q) R) R
  | .call f es => wpEs k ρ es (fun ps => C k f ps Q R) R
  | .bi b a => wpE k ρ a (fun p => biP b p Q) R
  | .max2 a b => wpE k ρ a (fun p => wpE k ρ b (fun q => max2P p q Q) R) R
  | .fst x e y => x.length ≤ 1000 ∧ wpE k ρ e (fun p => fstP x y p Q) R
  | .lc d elt it cond => ρ.length = d ∧ wpE k ρ it (fun p => match iterP p with
      | some l => l.length ≤ 2 ^ 20 ∧ wpLc (fun v K => wpO k (ρ ++ [.v v]) cond (fun t => (t = true → wpE k (ρ ++ [.v v]) elt (fun y => K (some y)) fun _ => False) ∧ (t = false → K none)) fun _ => False) l [] fun ys => Q (.list ys)
      | none => False) R
  | .dc d key val it => ρ.length = d ∧ wpE k ρ it (fun p => match iterP p with
      | some l => l.length ≤ 100 ∧ wpDc (fun v K => wpE k (ρ ++ [.v v]) key K fun _ => False) (fun v K => wpE k (ρ ++ [.v v]) val K fun _ => False) l ([], []) fun r => Q (.sd r.1 r.2)
      | none => False) R
  | .kept e => False
  | .bad => False
noncomputable def wpT (k : Nat) (ρ : List Bd) (e : IE) (Q : Bool → Prop) (R : PySem.Str → Prop) : Prop := match e with
  | .not a => wpT k ρ a (fun t => Q (!t)) R
  | .and a b => wpT k ρ a (fun t => (t = true → wpT k ρ b Q R) ∧ (t = false → Q false)) R
  | .or a b => wpT k ρ a (fun t => (t = true → Q true) ∧ (t = false → wpT k ρ b Q R)) R
  | .cmp op a b => wpE k ρ a (fun p => wpE k ρ b (fun q => cmpP op p q Q) R) R
  | .inv op a i => wpE k ρ a (fun p => invP op ρ[i]? p Q) R
  | .var i => (match ρ[i]? with | some (.v p) => truP p Q | _ => False)
  | .call f es => wpEs k ρ es (fun ps => C k f ps (fun p => truP p Q) R) R
  | .bi b a => wpE k ρ a (fun p => biP b p fun p => truP p Q) R
  | _ => False
noncomputable def wpO (k : Nat) (ρ : List Bd) (e : Option IE) (Q : Bool → Prop) (R : PySem.Str → Prop) : Prop := match e with
  | none => Q true
  | some c => wpT k ρ c Q R
noncomputable def wpEs (k : Nat) (ρ : List Bd) (es : List IE) (Q : List PV → Prop) (R : PySem.Str → Prop) : Prop := match es with
  | [] => Q []
  | e :: es => wpE k ρ e (fun p => wpEs k ρ es (fun ps => Q (p :: ps)) R) R
end
noncomputable def wpFor (body : List Bd → (Fl → List Bd → Prop) → Prop) (i : Nat) : List PV → List Bd → (Fl → List Bd → Prop) → Prop
  | [], ρ, Q => Q .next ρ
  | v :: l, ρ, Q => body (ρ.set i (.v v)) fun fl ρ' => match fl with
      | .ret p => Q (.ret p) ρ'
      | _ => wpFor body i l ρ' Q
noncomputable def seqF (Q : Fl → List Bd → Prop) (K : List Bd → Prop) : Fl → List Bd → Prop
  | .next, ρ => K ρ
  | fl, ρ => Q fl ρ
noncomputable def frzB : Bd → Bd
  | .ol l => .v (.list l) | .os ks vs => .v (.sd ks vs) | .oi ks => .v (.idt ks)
  | .ov k it none => .v (.vec k it .none) | .ov k it (some (ks, vs)) => .v (.vec k it (.sd ks vs))
  | b => b
noncomputable def appM (o : Option Bd) (i : Nat) (ρ : List Bd) (p : PV) (Q : List Bd → Prop) : Prop := match o with
  | some (.ol l) => l.length ≤ 2 ^ 20 ∧ Q (ρ.set i (.ol (l ++ [p])))
  | _ => False
noncomputable def appP (i : Nat) (ρ : List Bd) (p : PV) (Q : List Bd → Prop) : Prop := appM ρ[i]? i ρ p Q
noncomputable def setiM (o : Option Bd) (i : Nat) (ρ : List Bd) (q p : PV) (Q : List Bd → Prop) : Prop := match o with
  | some (.os ks vs) => (match q with
    | .str x => ks.length ≤ 2 ^ 20 ∧ Q (ρ.set i (.os (putP ks vs x p).1 (putP ks vs x p).2))
    | .int x => (match ks, vs with | [], [] => Q (ρ.set i (.oi [x])) | _, _ => False)
    | _ => False)
  | some (.oi ks) => (match q with
    | .int x => ks.length ≤ 2 ^ 20 ∧ Q (ρ.set i (.oi (if x ∈ ks then ks else ks ++ [x])))
    | _ => False)
  | _ => False
noncomputable def setiP (i : Nat) (ρ : List Bd) (q p : PV) (Q : List Bd → Prop) : Prop := setiM ρ[i]? i ρ q p Q
noncomputable def namedM (o : Option Bd) (i : Nat) (ρ : List Bd) (p : PV) (Q : List Bd → Prop) : Prop := match o with
  | some (.ov k it none) => (match p with | .list l => l.length ≤ 2 ^ 20 ∧ Q (ρ.set i (.ov k it (some (["names"], [.vec "character" (.list l) .none])))) | _ => False)
  | _ => False
noncomputable def namedP (i : Nat) (ρ : List Bd) (p : PV) (Q : List Bd → Prop) : Prop := namedM ρ[i]? i ρ p Q
noncomputable def setAM (o : Option Bd) (i : Nat) (ρ : List Bd) (k : PySem.Str) (p : PV) (Q : List Bd → Prop) : Prop := match o with
  | some (.ov kd it _) => Q (ρ.set i (.ov kd it (some ([k], [p]))))
  | _ => False
noncomputable def setAP (i : Nat) (ρ : List Bd) (k : PySem.Str) (p : PV) (Q : List Bd → Prop) : Prop := setAM ρ[i]? i ρ k p Q
noncomputable def ensAM (o : Option Bd) (i : Nat) (ρ : List Bd) (Q : List Bd → Prop) : Prop := match o with
  | some (.ov kd it none) => Q (ρ.set i (.ov kd it (some ([], []))))
  | some (.ov _ _ (some _)) => Q ρ
  | _ => False
noncomputable def ensAP (i : Nat) (ρ : List Bd) (Q : List Bd → Prop) : Prop := ensAM ρ[i]? i ρ Q
noncomputable def setAIM (o : Option Bd) (i : Nat) (ρ : List Bd) (k : PySem.Str) (p : PV) (Q : List Bd → Prop) : Prop := match o with
  | some (.ov kd it (some (ks, vs))) => ks.length ≤ 100 ∧ Q (ρ.set i (.ov kd it (some (putP ks vs k p))))
  | _ => False
noncomputable def setAIP (i : Nat) (ρ : List Bd) (k : PySem.Str) (p : PV) (Q : List Bd → Prop) : Prop := setAIM ρ[i]? i ρ k p Q
noncomputable def isOv (b : Option Bd) : Prop := match b with | some (.ov ..) => True | _ => False
noncomputable def isOd (b : Option Bd) : Prop := match b with | some (.os ..) => True | some (.oi _) => True | _ => False
noncomputable def isTab (b : Option Bd) : Prop := match b with | some .tab => True | _ => False
noncomputable def isOl (b : Option Bd) : Prop := match b with | some (.ol _) => True | _ => False
mutual
noncomputable def wpS (k : Nat) (ρ : List Bd) (s : IS) (Q : Fl → List Bd → Prop) (R : PySem.Str → Prop) : Prop := match s with
  | .asg i e => wpE C k ρ e (fun p => Q .next (ρ.set i (.v p))) R
  | .newL i => Q .next (ρ.set i (.ol []))
  | .newD i => Q .next (ρ.set i (.os [] []))
  | .newV i a b => wpE C k ρ a (fun p => wpE C k ρ b (fun q => match p with | .str x => 3 ≤ k ∧ Q .next (ρ.set i (.ov x q none)) | _ => False) R) R
  | .app i e => isOl ρ[i]? ∧ wpE C k ρ e (fun p => appP i ρ p (Q .next)) R
  | .seti i a e => isOd ρ[i]? ∧ wpE C k ρ e (fun p => wpE C k ρ a (fun q => setiP i ρ q p (Q .next)) R) R
  | .frz i => Q .next (match ρ[i]? with | some b => ρ.set i (frzB b) | none => ρ)
  | .ite c t f => wpT C k ρ c (fun b => (b = true → wpSs k ρ t Q R) ∧ (b = false → wpSs k ρ f Q R)) R
  | .ret e => wpE C k ρ e (fun p => Q (.ret p) ρ) R
  | .cont => Q .cont ρ
  | .for i it body => wpE C k ρ it (fun p => match iterP p with
      | some l => wpFor (fun ρ Q => wpSs k ρ body Q fun _ => False) i l ρ Q
      | none => False) R
  | .raise e => wpE C k ρ e (fun p => match p with | .str x => 3 ≤ k ∧ R x | _ => False) R
  | .keep i e => isTab ρ[0]? ∧ 3 ≤ k ∧ wpE C (k - 2) ρ e (fun p => Q .next (ρ.set i (.v p))) fun x => Q .next (ρ.set i (.v (.str x)))
  | .named i e => 5 ≤ k ∧ isOv ρ[i]? ∧ wpE C k ρ e (fun p => namedP i ρ p (Q .next)) R
  | .setA i x e => isOv ρ[i]? ∧ wpE C k ρ e (fun p => setAP i ρ x p (Q .next)) R
  | .ensA i => ensAP i ρ (Q .next)
  | .setAI i x e => isOv ρ[i]? ∧ wpE C k ρ e (fun p => setAIP i ρ x p (Q .next)) R
  | .bad => False
noncomputable def wpSs (k : Nat) (ρ : List Bd) (ss : List IS) (Q : Fl → List Bd → Prop) (R : PySem.Str → Prop) : Prop := match ss with
  | [] => Q .next ρ
  | s :: ss => wpS k ρ s (seqF Q fun ρ' => wpSs k ρ' ss Q R) R
end
end
section
variable {C : Nat → Addr → List PV → (PV → Prop) → (PySem.Str → Prop) → Prop} {k : Nat} {ρ : List Bd} {Q : PV → Prop} {T : Bool → Prop} {R : PySem.Str → Prop} {S : Fl → List Bd → Prop} {a b c e : IE} {es : List IE} {i d n : Nat} {op : CmpOp} {t f : List IS} {ss : List IS}
theorem wr_bad {P : Prop} (h : wpE C k ρ .bad Q R) : P := False.elim h
theorem wt_bad {P : Prop} (h : wpT C k ρ .bad T R) : P := False.elim h
theorem wr_lit {p : PV} (h : wpE C k ρ (.lit p) Q R) : Q p := h
theorem wr_var (h : wpE C k ρ (.var i) Q R) : ∃ p, ρ[i]? = some (.v p) ∧ Q p := by
  have h' : (match ρ[i]? with | some (.v p) => Q p | _ => False) := h
  match e : ρ[i]?, h' with
  | some (.v p), h' => exact ⟨p, rfl, h'⟩
theorem wr_bin {op : Operator} (h : wpE C k ρ (.bin op a b) Q R) : wpE C k ρ a (fun p => wpE C k ρ b (fun q => binP op p q Q) R) R := h
theorem wr_neg (h : wpE C k ρ (.neg a) Q R) : wpE C k ρ a (fun p => negP p Q) R := h
theorem wr_not (h : wpE C k ρ (.not a) Q R) : wpE C k ρ a (fun p => truP p fun b => Q (.bool !b)) R := h
theorem wr_cmp (h : wpE C k ρ (.cmp op a b) Q R) : wpE C k ρ a (fun p => wpE C k ρ b (fun q => cmpP op p q fun b => Q (.bool b)) R) R := h
theorem wr_inv (h : wpE C k ρ (.inv op a i) Q R) : wpE C k ρ a (fun p => invP op ρ[i]? p fun b => Q (.bool b)) R := h
theorem wr_and (h : wpE C k ρ (.and a b) Q R) : wpE C k ρ a (fun p => truP p fun t => (t = true → wpE C k ρ b Q R) ∧ (t = false → Q p)) R := h
theorem wr_or (h : wpE C k ρ (.or a b) Q R) : wpE C k ρ a (fun p => truP p fun t => (t = true → Q p) ∧ (t = false → wpE C k ρ b Q R)) R := h
theorem wr_ite (h : wpE C k ρ (.ite c a b) Q R) : wpT C k ρ c (fun t => (t = true → wpE C k ρ a Q R) ∧ (t = false → wpE C k ρ b Q R)) R := h
theorem wr_list (h : wpE C k ρ (.list es) Q R) : wpEs C k ρ es (fun ps => ps.length ≤ 100 ∧ Q (.list ps)) R := h
theorem wr_tup (h : wpE C k ρ (.tup es) Q R) : wpEs C k ρ es (fun ps => ps.length ≤ 100 ∧ Q (.tup ps)) R := h
theorem wr_dict0 (h : wpE C k ρ .dict0 Q R) : Q (.sd [] []) := h
theorem wr_dict1 {x : PySem.Str} (h : wpE C k ρ (.dict1 x e) Q R) : wpE C k ρ e (fun p => Q (.sd [x] [p])) R := h
theorem wr_idx (h : wpE C k ρ (.idx a b) Q R) : wpE C k ρ a (fun p => wpE C k ρ b (fun q => idxP p q Q) R) R := h
theorem wr_fld {f : Fld} (h : wpE C k ρ (.fld f a) Q R) : wpE C k ρ a (fun p => fldP f p Q) R := h
theorem wr_getm (h : wpE C k ρ (.getm a b) Q R) : wpE C k ρ a (fun p => isSd p ∧ wpE C k ρ b (fun q => getmP p q Q) R) R := h
theorem wr_lidx (h : wpE C k ρ (.lidx a b) Q R) : wpE C k ρ a (fun p => isLst p ∧ wpE C k ρ b (fun q => lidxP p q Q) R) R := h
theorem wr_call {g : Addr} (h : wpE C k ρ (.call g es) Q R) : wpEs C k ρ es (fun ps => C k g ps Q R) R := h
theorem wr_bi {b : Bi} (h : wpE C k ρ (.bi b a) Q R) : wpE C k ρ a (fun p => biP b p Q) R := h
theorem wr_max2 (h : wpE C k ρ (.max2 a b) Q R) : wpE C k ρ a (fun p => wpE C k ρ b (fun q => max2P p q Q) R) R := h
theorem wr_fst {x y : PySem.Str} (h : wpE C k ρ (.fst x e y) Q R) : x.length ≤ 1000 ∧ wpE C k ρ e (fun p => fstP x y p Q) R := h
theorem wr_lc {elt it : IE} {cond : Option IE} (h : wpE C k ρ (.lc d elt it cond) Q R) : ρ.length = d ∧ wpE C k ρ it (fun p => ∃ l, iterP p = some l ∧ l.length ≤ 2 ^ 20 ∧
      wpLc (fun v K => wpO C k (ρ ++ [.v v]) cond (fun t => (t = true → wpE C k (ρ ++ [.v v]) elt (fun y => K (some y)) fun _ => False) ∧ (t = false → K none)) fun _ => False) l [] fun ys => Q (.list ys)) R := by
  refine ⟨h.1, ?_⟩
  have e : (fun p => match iterP p with
      | some l => l.length ≤ 2 ^ 20 ∧ wpLc (fun v K => wpO C k (ρ ++ [.v v]) cond (fun t => (t = true → wpE C k (ρ ++ [.v v]) elt (fun y => K (some y)) fun _ => False) ∧ (t = false → K none)) fun _ => False) l [] fun ys => Q (.list ys)
      | none => False) = fun p => ∃ l, iterP p = some l ∧ l.length ≤ 2 ^ 20 ∧ wpLc (fun v K => wpO C k (ρ ++ [.v v]) cond (fun t => (t = true → wpE C k (ρ ++ [.v v]) elt (fun y => K (some y)) fun _ => False) ∧ (t = false → K none)) fun _ => False) l [] fun ys => Q (.list ys) := by
    funext p
    cases iterP p with
    | none => exact propext ⟨fun h => h.elim, fun ⟨_, h, _⟩ => nomatch h⟩
    | some l => exact propext ⟨fun h => ⟨l, rfl, h⟩, fun ⟨_, h, q⟩ => by cases h; exact q⟩
  have h2 := h.2
  exact e ▸ h2
theorem wr_dc {key val it : IE} (h : wpE C k ρ (.dc d key val it) Q R) : ρ.length = d ∧ wpE C k ρ it (fun p => ∃ l, iterP p = some l ∧ l.length ≤ 100 ∧
      wpDc (fun v K => wpE C k (ρ ++ [.v v]) key K fun _ => False) (fun v K => wpE C k (ρ ++ [.v v]) val K fun _ => False) l ([], []) fun r => Q (.sd r.1 r.2)) R := by
  refine ⟨h.1, ?_⟩
  have e : (fun p => match iterP p with
      | some l => l.length ≤ 100 ∧ wpDc (fun v K => wpE C k (ρ ++ [.v v]) key K fun _ => False) (fun v K => wpE C k (ρ ++ [.v v]) val K fun _ => False) l ([], []) fun r => Q (.sd r.1 r.2)
      | none => False) = fun p => ∃ l, iterP p = some l ∧ l.length ≤ 100 ∧ wpDc (fun v K => wpE C k (ρ ++ [.v v]) key K fun _ => False) (fun v K => wpE C k (ρ ++ [.v v]) val K fun _ => False) l ([], []) fun r => Q (.sd r.1 r.2) := by
    funext p
    cases iterP p with
    | none => exact propext ⟨fun h => h.elim, fun ⟨_, h, _⟩ => nomatch h⟩
    | some l => exact propext ⟨fun h => ⟨l, rfl, h⟩, fun ⟨_, h, q⟩ => by cases h; exact q⟩
  have h2 := h.2
  exact e ▸ h2
theorem ts_not (h : wpT C k ρ (.not a) T R) : wpT C k ρ a (fun t => T (!t)) R := h
theorem ts_and (h : wpT C k ρ (.and a b) T R) : wpT C k ρ a (fun t => (t = true → wpT C k ρ b T R) ∧ (t = false → T false)) R := h
theorem ts_or (h : wpT C k ρ (.or a b) T R) : wpT C k ρ a (fun t => (t = true → T true) ∧ (t = false → wpT C k ρ b T R)) R := h
theorem ts_cmp (h : wpT C k ρ (.cmp op a b) T R) : wpE C k ρ a (fun p => wpE C k ρ b (fun q => cmpP op p q T) R) R := h
theorem ts_inv (h : wpT C k ρ (.inv op a i) T R) : wpE C k ρ a (fun p => invP op ρ[i]? p T) R := h
theorem ts_var (h : wpT C k ρ (.var i) T R) : ∃ p, ρ[i]? = some (.v p) ∧ truP p T := by
  have h' : (match ρ[i]? with | some (.v p) => truP p T | _ => False) := h
  match e : ρ[i]?, h' with
  | some (.v p), h' => exact ⟨p, rfl, h'⟩
theorem we_var' {p : PV} (h : ρ[i]? = some (.v p)) (hq : Q p) : wpE C k ρ (.var i) Q R := by
  show (match ρ[i]? with | some (.v p) => Q p | _ => False)
  rw [h]; exact hq
theorem ts_call {g : Addr} (h : wpT C k ρ (.call g es) T R) : wpE C k ρ (.call g es) (fun p => truP p T) R := h
theorem ts_bi {b : Bi} (h : wpT C k ρ (.bi b a) T R) : wpE C k ρ (.bi b a) (fun p => truP p T) R := h
theorem ss_keep (h : wpSs C k ρ ([.keep i e] ++ ss) S R) : isTab ρ[0]? ∧ 3 ≤ k ∧ wpE C (k - 2) ρ e (fun p => wpSs C k (ρ.set i (.v p)) ss S R) fun x => wpSs C k (ρ.set i (.v (.str x))) ss S R := h
theorem ss_setA {x : PySem.Str} (h : wpSs C k ρ ([.setA i x e] ++ ss) S R) : isOv ρ[i]? ∧ wpE C k ρ e (fun p => setAP i ρ x p fun ρ' => wpSs C k ρ' ss S R) R := h
theorem ss_setAI {x : PySem.Str} (h : wpSs C k ρ ([.setAI i x e] ++ ss) S R) : isOv ρ[i]? ∧ wpE C k ρ e (fun p => setAIP i ρ x p fun ρ' => wpSs C k ρ' ss S R) R := h
theorem ss_seti (h : wpSs C k ρ ([.seti i a e] ++ ss) S R) : isOd ρ[i]? ∧ wpE C k ρ e (fun p => wpE C k ρ a (fun q => setiP i ρ q p fun ρ' => wpSs C k ρ' ss S R) R) R := h
theorem ss_app (h : wpSs C k ρ ([.app i e] ++ ss) S R) : isOl ρ[i]? ∧ wpE C k ρ e (fun p => appP i ρ p fun ρ' => wpSs C k ρ' ss S R) R := h
theorem ss_named (h : wpSs C k ρ ([.named i e] ++ ss) S R) : 5 ≤ k ∧ isOv ρ[i]? ∧ wpE C k ρ e (fun p => namedP i ρ p fun ρ' => wpSs C k ρ' ss S R) R := h
theorem ss_ite (h : wpSs C k ρ ([.ite c t f] ++ ss) S R) : wpT C k ρ c (fun b => (b = true → wpSs C k ρ t (seqF S fun ρ' => wpSs C k ρ' ss S R) R) ∧ (b = false → wpSs C k ρ f (seqF S fun ρ' => wpSs C k ρ' ss S R) R)) R := h
theorem ss_ret (h : wpSs C k ρ ([.ret e] ++ ss) S R) : wpE C k ρ e (fun p => S (.ret p) ρ) R := h
theorem ss_raise (h : wpSs C k ρ ([.raise e] ++ ss) S R) : wpE C k ρ e (fun p => ∃ x, p = .str x ∧ 3 ≤ k ∧ R x) R := by
  have e1 : (fun p => match p with | .str x => 3 ≤ k ∧ R x | _ => False) = fun p => ∃ x, p = PV.str x ∧ 3 ≤ k ∧ R x := by
    funext p
    cases p with
    | str x => exact propext ⟨fun h => ⟨x, rfl, h⟩, fun ⟨_, h, q⟩ => by cases h; exact q⟩
    | _ => exact propext ⟨fun h => h.elim, fun ⟨_, h, _⟩ => nomatch h⟩
  have h2 : wpE C k ρ e (fun p => match p with | .str x => 3 ≤ k ∧ R x | _ => False) R := h
  exact e1 ▸ h2
theorem ss_for {body : List IS} (h : wpSs C k ρ ([.for i e body] ++ ss) S R) : wpE C k ρ e (fun p => ∃ l, iterP p = some l ∧ wpFor (fun ρ Q => wpSs C k ρ body Q fun _ => False) i l ρ (seqF S fun ρ' => wpSs C k ρ' ss S R)) R := by
  have e1 : (fun p => match iterP p with | some l => wpFor (fun ρ Q => wpSs C k ρ body Q fun _ => False) i l ρ (seqF S fun ρ' => wpSs C k ρ' ss S R) | none => False) = fun p => ∃ l, iterP p = some l ∧ wpFor (fun ρ Q => wpSs C k ρ body Q fun _ => False) i l ρ (seqF S fun ρ' => wpSs C k ρ' ss S R) := by
    funext p
    cases iterP p with
    | none => exact propext ⟨fun h => h.elim, fun ⟨_, h, _⟩ => nomatch h⟩
    | some l => exact propext ⟨fun h => ⟨l, rfl, h⟩, fun ⟨_, h, q⟩ => by cases h; exact q⟩
  have h2 : wpE C k ρ e (fun p => match iterP p with | some l => wpFor (fun ρ Q => wpSs C k ρ body Q fun _ => False) i l ρ (seqF S fun ρ' => wpSs C k ρ' ss S R) | none => False) R := h
  exact e1 ▸ h2
theorem wf_cons {body : List Bd → (Fl → List Bd → Prop) → Prop} {v : PV} {l : List PV} {Q : Fl → List Bd → Prop} (h : wpFor body i (v :: l) ρ Q) : body (ρ.set i (.v v)) fun fl ρ' => match fl with
      | .ret p => Q (.ret p) ρ'
      | _ => wpFor body i l ρ' Q := h
theorem ss_bad {P : Prop} (h : wpSs C k ρ ([.bad] ++ ss) S R) : P := False.elim h
end
end Mine

end
section
open PySem PySem.W PySem.Calls PyProof.Rows PySem.Spec
set_option Elab.async false
set_option maxRecDepth 100000
set_option linter.unusedVariables false
namespace Mine
theorem asName_eq {e : Expr} {x : PySem.Str} : asName e = some x → ∃ p, e = .Name x p := by
  refine vwE (P := fun e v => (match v with | .name x _ => some x | _ => none) = some x → ∃ p, e = .Name x p) (fun v h => ?_) e
  cases v with
  | name y p => cases h; exact ⟨p, rfl⟩
  | _ => exact nS h
theorem cStr_eq {c : Const} {x : PySem.Str} (h : cStr c = some x) : c = .str x := by
  cases c with
  | str y => cases h; rfl
  | _ => exact nS h
theorem cNone_eq {c : Const} (h : cNone c = true) : c = .none := by
  cases c with
  | none => rfl
  | _ => exact fT h
theorem asStr_eq {e : Expr} {x : PySem.Str} : asStr e = some x → ∃ j p, e = .Constant (.str x) j p := by
  refine vwE (P := fun e v => (match v with | .con c _ _ => cStr c | _ => none) = some x → ∃ j p, e = .Constant (.str x) j p) (fun v h => ?_) e
  cases v with
  | con c j p => exact cStr_eq h ▸ ⟨j, p, rfl⟩
  | _ => exact nS h
theorem isNone_eq {e : Expr} : isNone e = true → ∃ j p, e = .Constant .none j p := by
  refine vwE (P := fun e v => (match v with | .con c _ _ => cNone c | _ => false) = true → ∃ j p, e = .Constant .none j p) (fun v h => ?_) e
  cases v with
  | con c j p => exact cNone_eq h ▸ ⟨j, p, rfl⟩
  | _ => exact fT h
theorem isD0_eq {e : Expr} : isD0 e = true → ∃ p, e = .Dict [] [] p := by
  refine vwE (P := fun e v => (match v with | .dict ks vs _ => ks.isEmpty && vs.isEmpty | _ => false) = true → ∃ p, e = .Dict [] [] p) (fun v h => ?_) e
  cases v with
  | dict ks vs p =>
    have h := (Bool.and_eq_true _ _).mp h
    exact List.isEmpty_iff.mp h.1 ▸ List.isEmpty_iff.mp h.2 ▸ ⟨p, rfl⟩
  | _ => exact fT h
theorem oStr_eq {k : Option Expr} {x : PySem.Str} (h : oStr k = some x) : ∃ j p, k = some (.Constant (.str x) j p) := by
  cases k with
  | none => cases h
  | some e => obtain ⟨j, p, rfl⟩ := asStr_eq h; exact ⟨j, p, rfl⟩
theorem isCall0_no {a : Expr} (h : isCall0 a = false) : ∀ f ks p, a ≠ .Call f [] ks p := by
  rintro f ks p rfl; cases h
theorem if_eq {α : Type} {c : Bool} {a b : α} {o : Option α} (h : (if c = true then some a else o) = some b) : (c = true ∧ a = b) ∨ (c = false ∧ o = some b) := by
  cases c with
  | true => exact .inl ⟨rfl, Option.some.inj h⟩
  | false => exact .inr ⟨rfl, h⟩
theorem fldOf_eq {x : PySem.Str} {fl : Fld} (h : fldOf x = some fl) : fl.name = x := by
  rcases if_eq h with ⟨e, rfl⟩ | ⟨_, h⟩
  · exact (beq_iff_eq.mp e).symm
  rcases if_eq h with ⟨e, rfl⟩ | ⟨_, h⟩
  · exact (beq_iff_eq.mp e).symm
  rcases if_eq h with ⟨e, rfl⟩ | ⟨_, h⟩
  · exact (beq_iff_eq.mp e).symm
  exact nS h
theorem ifN {α : Type} {c : Bool} {o : Option α} {b : α} (h : (if c = true then o else none) = some b) : c = true ∧ o = some b := by
  cases c with
  | true => exact ⟨rfl, h⟩
  | false => exact nS h
theorem asFv_eq {e u : Expr} : asFv e = some u → ∃ p, e = .FormattedValue u (-1) none p := by
  refine vwE (P := fun e v => (match v with | .fv e c sp _ => if (c == -1 && sp.isNone) = true then some e else none | _ => none) = some u → ∃ p, e = .FormattedValue u (-1) none p) (fun v h => ?_) e
  cases v with
  | fv e c sp p =>
    obtain ⟨hc, h⟩ := ifN h
    cases h
    have hc := (Bool.and_eq_true _ _).mp hc
    rw [beq_iff_eq.mp hc.1, Option.isNone_iff_eq_none.mp hc.2]; exact ⟨p, rfl⟩
  | _ => exact nS h
theorem asGen_eq {g : Comprehension} {x : PySem.Str} (h : asGen g = some x) : ∃ p, g = ⟨.Name x p, g.iter, g.ifs, 0⟩ := by
  cases g with
  | mk t it ifs a =>
    obtain ⟨hc, h⟩ := ifN h
    obtain ⟨p, rfl⟩ := asName_eq h
    cases beq_iff_eq.mp hc; exact ⟨p, rfl⟩
theorem isFn_eq {g : Gl} {n : Nat} (h : isFn g n = true) : g = .fn n := by
  cases g with
  | fn f => rw [show f = n from beq_iff_eq.mp h]
  | bi _ => cases h
  | no => cases h
theorem isStrB_eq {g : Gl} (h : isStrB g = true) : g = .bi .str := by
  cases g with
  | fn f => cases h
  | bi b => cases b <;> first | (cases h; done) | rfl
  | no => cases h
theorem argsNo_eq {a : Arguments} (h : argsNo a = true) : a = ⟨[], [], none, [], [], none, []⟩ := by
  cases a with
  | mk a b c d e f g =>
    obtain ⟨h, h7⟩ := Bool.and_eq_true_iff.mp (show (a.isEmpty && b.isEmpty && c.isNone && d.isEmpty && e.isEmpty && f.isNone && g.isEmpty) = true from h)
    obtain ⟨h, h6⟩ := Bool.and_eq_true_iff.mp h
    obtain ⟨h, h5⟩ := Bool.and_eq_true_iff.mp h
    obtain ⟨h, h4⟩ := Bool.and_eq_true_iff.mp h
    obtain ⟨h, h3⟩ := Bool.and_eq_true_iff.mp h
    obtain ⟨h1, h2⟩ := Bool.and_eq_true_iff.mp h
    rw [List.isEmpty_iff.mp h1, List.isEmpty_iff.mp h2, Option.isNone_iff_eq_none.mp h3, List.isEmpty_iff.mp h4, List.isEmpty_iff.mp h5, Option.isNone_iff_eq_none.mp h6, List.isEmpty_iff.mp h7]
theorem asLam_eq {e : Expr} {p : Expr × Scope} : asLam e = some p → ∃ q, e = .Lambda ⟨[], [], none, [], [], none, []⟩ p.1 p.2 q := by
  refine vwE (P := fun e v => (match v with | .lam as b sc _ => if argsNo as = true then some (b, sc) else none | _ => none) = some p → ∃ q, e = .Lambda ⟨[], [], none, [], [], none, []⟩ p.1 p.2 q) (fun v h => ?_) e
  cases v with
  | lam as b sc q =>
    obtain ⟨hc, h⟩ := ifN h
    cases h; rw [argsNo_eq hc]; exact ⟨q, rfl⟩
  | _ => exact nS h
theorem attrsOf_eq {e : Expr} {x : PySem.Str} : attrsOf e = some x → ∃ p q, e = .Attribute (.Name x p) "attrs" q := by
  refine vwE (P := fun e v => (match v with | .att a x _ => if (x == "attrs") = true then asName a else none | _ => none) = some x → ∃ p q, e = .Attribute (.Name x p) "attrs" q) (fun v h => ?_) e
  cases v with
  | att a f q =>
    obtain ⟨hc, h⟩ := ifN h
    obtain ⟨p, rfl⟩ := asName_eq h; rw [beq_iff_eq.mp hc]; exact ⟨p, q, rfl⟩
  | _ => exact nS h
theorem asD1_eq {e : Expr} {p : PySem.Str × Expr} : asD1 e = some p → ∃ j q r, e = .Dict [some (.Constant (.str p.1) j q)] [p.2] r := by
  refine vwE (P := fun e v => (match v with | .dict ks vs _ => ((one? ks).bind fun k => (oStr k).bind fun x => (one? vs).bind fun v => some (x, v)) | _ => none) = some p → ∃ j q r, e = .Dict [some (.Constant (.str p.1) j q)] [p.2] r) (fun v h => ?_) e
  cases v with
  | dict ks vs r =>
    obtain ⟨k, hk, h⟩ := Option.bind_eq_some_iff.mp h
    obtain ⟨x, hx, h⟩ := Option.bind_eq_some_iff.mp h
    obtain ⟨v, hv, h⟩ := Option.bind_eq_some_iff.mp h
    cases h
    obtain ⟨j, q, rfl⟩ := oStr_eq hx
    rw [one_eq hk, one_eq hv]; exact ⟨j, q, r, rfl⟩
  | _ => exact nS h
theorem asIsN_eq {e u : Expr} : asIsN e = some u → ∃ j q r, e = .Compare u [.Is] [.Constant .none j q] r := by
  refine vwE (P := fun e v => (match v with | .cmp a ops bs _ => ((one? ops).bind fun op => (one? bs).bind fun b => if (isIs op && isNone b) = true then some a else none) | _ => none) = some u → ∃ j q r, e = .Compare u [.Is] [.Constant .none j q] r) (fun v h => ?_) e
  cases v with
  | cmp a ops bs r =>
    obtain ⟨op, ho, h⟩ := Option.bind_eq_some_iff.mp h
    obtain ⟨b, hb, h⟩ := Option.bind_eq_some_iff.mp h
    obtain ⟨hc, h⟩ := ifN h
    cases h
    have hc := (Bool.and_eq_true _ _).mp hc
    obtain ⟨j, q, rfl⟩ := isNone_eq hc.2
    rw [one_eq ho, one_eq hb]
    cases op with
    | Is => exact ⟨j, q, r, rfl⟩
    | _ => exact fT hc.1
  | _ => exact nS h
theorem isEns_eq {x : PySem.Str} {e : Expr} : isEns x e = true → ∃ p1 p2 j p3 p4 p5 p6 p7 p8, e = .IfExp (.Compare (.Attribute (.Name x p1) "attrs" p2) [.Is] [.Constant .none j p3] p4) (.Dict [] [] p5) (.Attribute (.Name x p6) "attrs" p7) p8 := by
  refine vwE (P := fun e v => (match v with | .ife c a b _ => (match asIsN c with | some u => attrsOf u == some x && attrsOf b == some x && isD0 a | none => false) | _ => false) = true → ∃ p1 p2 j p3 p4 p5 p6 p7 p8, e = .IfExp (.Compare (.Attribute (.Name x p1) "attrs" p2) [.Is] [.Constant .none j p3] p4) (.Dict [] [] p5) (.Attribute (.Name x p6) "attrs" p7) p8) (fun v h => ?_) e
  cases v with
  | ife c a b p8 =>
    have h : (match asIsN c with | some u => attrsOf u == some x && attrsOf b == some x && isD0 a | none => false) = true := h
    cases hu : asIsN c with
    | none => rw [hu] at h; exact fT h
    | some u =>
      rw [hu] at h
      obtain ⟨h, h3⟩ := (Bool.and_eq_true _ _).mp h
      obtain ⟨h1, h2⟩ := (Bool.and_eq_true _ _).mp h
      obtain ⟨j, p3, p4, rfl⟩ := asIsN_eq hu
      obtain ⟨p1, p2, rfl⟩ := attrsOf_eq (beq_iff_eq.mp h1)
      obtain ⟨p6, p7, rfl⟩ := attrsOf_eq (beq_iff_eq.mp h2)
      obtain ⟨p5, rfl⟩ := isD0_eq h3
      exact ⟨p1, p2, j, p3, p4, p5, p6, p7, p8, rfl⟩
  | _ => exact fT h
end Mine

end
section
open PySem PySem.W PySem.Calls PyProof.Rows PySem.Spec
set_option Elab.async false
set_option maxRecDepth 100000
set_option linter.unusedVariables false
namespace Mine

noncomputable abbrev strK (σ : Sig) : KeyKind σ.prog σ.w PySem.Str := strKind σ.prog σ.w
noncomputable abbrev intK (σ : Sig) : KeyKind σ.prog σ.w Int := intKind σ.prog σ.w
noncomputable def IsRow (vs : List Value) : Prop := vs.length ≤ 200 ∧ ∃ ns, IntsAre vs ns
noncomputable def RowO : Obj → Prop := fun o => ∃ vs, LsP vs o ∧ IsRow vs
noncomputable abbrev Sub (X X' : Led) : Prop := ∀ p ∈ X, p ∈ X'
noncomputable abbrev rngO (n : Int) (t u v : Tok) : Obj := { cls := .type "range", data := .fields #[.int 0 u, .int n t, .int 1 v] }
/-- an own object's attribute -/
noncomputable def At (es : List DictEntry) (f : PySem.Str) (v : Value) : Prop := getL f es = some (some v) ∧ handedIn v = true

mutual
noncomputable def Rep (σ : Sig) (r : Option Addr) (X : Led) : PV → Value → Prop
  | .none, v => v = .none
  | .bool b, v => v = .bool b
  | .int i, v => ∃ t, v = .int i t
  | .str x, v => ∃ t, v = .str x t
  | .list l, v => ∃ a vs n, v = .ref a ∧ (a, lst vs n) ∈ X ∧ Reps σ r X l vs
  | .tup l, v => ∃ a vs, v = .ref a ∧ (a, TupO vs) ∈ X ∧ Reps σ r X l vs
  | .sd ks l, v => ∃ a o vs, v = .ref a ∧ (a, o) ∈ X ∧ (a == sysModules) = false ∧ ks.length = vs.length ∧ o.IsDictOf (strK σ) (ks.zip vs) ∧ Reps σ r X l vs
  | .idt ks, v => ∃ a o vs, v = .ref a ∧ (a, o) ∈ X ∧ (a == sysModules) = false ∧ ks.length = vs.length ∧ o.IsDictOf (intK σ) (ks.zip vs)
  | .vec k it at', v => ∃ a d es n vk vi va, v = .ref a ∧ (a, instObj 246 d) ∈ X ∧ (d, dictOf es n) ∈ X ∧ At es "kind" vk ∧ At es "items" vi ∧ At es "attrs" va ∧ (∃ t, vk = .str k t) ∧ Rep σ r X it vi ∧ Rep σ r X at' va
  | .null, v => ∃ a d es n t, v = .ref a ∧ (a, instObj 196 d) ∈ X ∧ (d, dictOf es n) ∈ X ∧ At es "kind" (.str "NULL" t) ∧ At es "attrs" .none
  | .missing, v => ∃ a d es n t, v = .ref a ∧ (a, instObj 217 d) ∈ X ∧ (d, dictOf es n) ∈ X ∧ At es "kind" (.str "missing" t) ∧ At es "attrs" .none
  | .row, v => ∃ a, r = some a ∧ v = .ref a
  | .rng n, v => ∃ a t u w, v = .ref a ∧ (a, rngO n t u w) ∈ X
noncomputable def Reps (σ : Sig) (r : Option Addr) (X : Led) : List PV → List Value → Prop
  | [], vs => vs = []
  | p :: l, vs => ∃ v vs', vs = v :: vs' ∧ Rep σ r X p v ∧ Reps σ r X l vs'
end
theorem Rep.mono {σ : Sig} {r : Option Addr} {X X' : Led} (hs : Sub X X') (p : PV) : ∀ v, Rep σ r X p v → Rep σ r X' p v :=
  PV.rec (motive_1 := fun p => ∀ v, Rep σ r X p v → Rep σ r X' p v) (motive_2 := fun l => ∀ vs, Reps σ r X l vs → Reps σ r X' l vs)
      (fun _ h => h) (fun _ _ h => h) (fun _ _ h => h) (fun _ _ h => h)
      (fun l ih v h => Exists.elim h fun a h => Exists.elim h fun vs h => Exists.elim h fun n h => ⟨a, vs, n, h.1, hs _ h.2.1, ih _ h.2.2⟩)
      (fun l ih v h => Exists.elim h fun a h => Exists.elim h fun vs h => ⟨a, vs, h.1, hs _ h.2.1, ih _ h.2.2⟩)
      (fun ks l ih v h => Exists.elim h fun a h => Exists.elim h fun o h => Exists.elim h fun vs h => ⟨a, o, vs, h.1, hs _ h.2.1, h.2.2.1, h.2.2.2.1, h.2.2.2.2.1, ih _ h.2.2.2.2.2⟩)
      (fun ks v h => Exists.elim h fun a h => Exists.elim h fun o h => Exists.elim h fun vs h => ⟨a, o, vs, h.1, hs _ h.2.1, h.2.2⟩)
      (fun k it at' i1 i2 v h => Exists.elim h fun a h => Exists.elim h fun d h => Exists.elim h fun es h => Exists.elim h fun n h => Exists.elim h fun vk h => Exists.elim h fun vi h => Exists.elim h fun va h => ⟨a, d, es, n, vk, vi, va, h.1, hs _ h.2.1, hs _ h.2.2.1, h.2.2.2.1, h.2.2.2.2.1, h.2.2.2.2.2.1, h.2.2.2.2.2.2.1, i1 _ h.2.2.2.2.2.2.2.1, i2 _ h.2.2.2.2.2.2.2.2⟩)
      (fun v h => Exists.elim h fun a h => Exists.elim h fun d h => Exists.elim h fun es h => Exists.elim h fun n h => Exists.elim h fun t h => ⟨a, d, es, n, t, h.1, hs _ h.2.1, hs _ h.2.2.1, h.2.2.2⟩)
      (fun v h => Exists.elim h fun a h => Exists.elim h fun d h => Exists.elim h fun es h => Exists.elim h fun n h => Exists.elim h fun t h => ⟨a, d, es, n, t, h.1, hs _ h.2.1, hs _ h.2.2.1, h.2.2.2⟩)
      (fun _ h => h)
      (fun n v h => Exists.elim h fun a h => Exists.elim h fun t h => Exists.elim h fun u h => Exists.elim h fun w h => ⟨a, t, u, w, h.1, hs _ h.2⟩)
      (fun _ h => h)
      (fun p l i1 i2 vs h => Exists.elim h fun v h => Exists.elim h fun vs' h => ⟨v, vs', h.1, i1 _ h.2.1, i2 _ h.2.2⟩) p
section
variable {σ : Sig} {r : Option Addr} {X X' : Led}
theorem Reps.mono (hs : Sub X X') : ∀ (l : List PV) (vs : List Value), Reps σ r X l vs → Reps σ r X' l vs
  | [], vs, h => h
  | p :: l, vs, h => Exists.elim h fun v h => Exists.elim h fun vs' h => ⟨v, vs', h.1, h.2.1.mono hs, Reps.mono hs l _ h.2.2⟩
theorem Reps.nil : Reps σ r X [] [] := rfl
theorem Reps.cons {p : PV} {l : List PV} {v : Value} {vs : List Value} (h : Rep σ r X p v) (h' : Reps σ r X l vs) : Reps σ r X (p :: l) (v :: vs) := by
  exact ⟨v, vs, rfl, h, h'⟩
@[elab_as_elim] theorem Reps.inv {p : PV} {l : List PV} {vs : List Value} {C : List Value → Prop} (h : Reps σ r X (p :: l) vs) (H : ∀ v vs', Rep σ r X p v → Reps σ r X l vs' → C (v :: vs')) : C vs := Exists.elim h fun v h => Exists.elim h fun vs' h => h.1 ▸ H v vs' h.2.1 h.2.2
theorem Reps.inv0 {vs : List Value} (h : Reps σ r X [] vs) : vs = [] := h
theorem Reps.length : ∀ {l : List PV} {vs : List Value}, Reps σ r X l vs → l.length = vs.length
  | [], vs, h => by rw [h.inv0]; rfl
  | p :: l, vs, h => by
    refine h.inv fun v vs' _ h3 => ?_
    simp [Reps.length h3]
theorem Reps.append : ∀ {l l' : List PV} {vs vs' : List Value}, Reps σ r X l vs → Reps σ r X l' vs' → Reps σ r X (l ++ l') (vs ++ vs')
  | [], _, vs, _, h, h' => by rw [h.inv0]; exact h'
  | p :: l, _, vs, _, h, h' => by
    refine h.inv fun v vs' h2 h3 => ?_
    exact .cons h2 (h3.append h')
theorem Reps.snoc {l : List PV} {vs : List Value} {p : PV} {v : Value} (h : Reps σ r X l vs) (h' : Rep σ r X p v) : Reps σ r X (l ++ [p]) (vs ++ [v]) := h.append (.cons h' .nil)
theorem Reps.get : ∀ {l : List PV} {vs : List Value} {i : Nat} {p : PV}, Reps σ r X l vs → l[i]? = some p → ∃ v, vs[i]? = some v ∧ Rep σ r X p v
  | [], _, _, _, _, e => by simp at e
  | p :: l, vs, i, q, h, e => by
    refine h.inv fun v vs' h2 h3 => ?_
    cases i with
    | zero => simp at e; subst e; exact ⟨v, rfl, h2⟩
    | succ i => simp at e; obtain ⟨w, a, b⟩ := h3.get e; exact ⟨w, by simpa using a, b⟩
theorem Reps.get' : ∀ {l : List PV} {vs : List Value} {i : Nat} {v : Value}, Reps σ r X l vs → vs[i]? = some v → ∃ p, l[i]? = some p ∧ Rep σ r X p v
  | [], _, _, _, h, e => by rw [h.inv0] at e; simp at e
  | p :: l, vs, i, q, h, e => by
    revert e; refine h.inv fun v vs' h2 h3 e => ?_
    cases i with
    | zero => simp at e; subst e; exact ⟨p, rfl, h2⟩
    | succ i => simp at e; obtain ⟨w, a, b⟩ := h3.get' e; exact ⟨w, by simpa using a, b⟩
theorem Reps.put : ∀ {l : List PV} {vs : List Value} {i : Nat} {p : PV} {v : Value}, Reps σ r X l vs → Rep σ r X p v → Reps σ r X (l.set i p) (vs.set i v)
  | [], _, _, _, _, h, _ => by rw [h.inv0]; exact .nil
  | p :: l, vs, i, q, w, h, h' => by
    refine h.inv fun v vs' h2 h3 => ?_
    cases i with
    | zero => exact .cons h' h3
    | succ i => exact .cons h2 (h3.put h')
theorem Reps.take : ∀ {l : List PV} {vs : List Value} (i : Nat), Reps σ r X l vs → Reps σ r X (l.take i) (vs.take i)
  | [], _, _, h => by rw [h.inv0]; simp [Reps.nil]
  | p :: l, vs, i, h => by
    refine h.inv fun v vs' h2 h3 => ?_
    cases i with
    | zero => exact .nil
    | succ i => exact .cons h2 (h3.take i)
theorem Reps.reverse : ∀ {l : List PV} {vs : List Value}, Reps σ r X l vs → Reps σ r X l.reverse vs.reverse
  | [], _, h => by rw [h.inv0]; exact .nil
  | p :: l, vs, h => by
    refine h.inv fun v vs' h2 h3 => ?_
    rw [List.reverse_cons, List.reverse_cons]
    exact h3.reverse.snoc h2
theorem rep_none {v : Value} (h : Rep σ r X .none v) : v = .none := h
theorem rep_bool {b : Bool} {v : Value} (h : Rep σ r X (.bool b) v) : v = .bool b := h
@[elab_as_elim] theorem rep_int {i : Int} {v : Value} {C : Value → Prop} (h : Rep σ r X (.int i) v) (H : ∀ t, C (.int i t)) : C v := Exists.elim h fun t e => e ▸ H t
@[elab_as_elim] theorem rep_str {x : PySem.Str} {v : Value} {C : Value → Prop} (h : Rep σ r X (.str x) v) (H : ∀ t, C (.str x t)) : C v := Exists.elim h fun t e => e ▸ H t
@[elab_as_elim] theorem rep_list {l : List PV} {v : Value} {C : Value → Prop} (h : Rep σ r X (.list l) v) (H : ∀ a vs n, (a, lst vs n) ∈ X → Reps σ r X l vs → C (.ref a)) : C v := Exists.elim h fun a h => Exists.elim h fun vs h => Exists.elim h fun n h => h.1 ▸ H a vs n h.2.1 h.2.2
@[elab_as_elim] theorem rep_tup {l : List PV} {v : Value} {C : Value → Prop} (h : Rep σ r X (.tup l) v) (H : ∀ a vs, (a, TupO vs) ∈ X → Reps σ r X l vs → C (.ref a)) : C v := Exists.elim h fun a h => Exists.elim h fun vs h => h.1 ▸ H a vs h.2.1 h.2.2
@[elab_as_elim] theorem inv_sd {ks : List PySem.Str} {l : List PV} {v : Value} {C : Value → Prop} (h : Rep σ r X (.sd ks l) v) (H : ∀ a o vs, (a, o) ∈ X → (a == sysModules) = false → ks.length = vs.length → o.IsDictOf (strK σ) (ks.zip vs) → Reps σ r X l vs → C (.ref a)) : C v :=
  Exists.elim h fun a h => Exists.elim h fun o h => Exists.elim h fun vs h => h.1 ▸ H a o vs h.2.1 h.2.2.1 h.2.2.2.1 h.2.2.2.2.1 h.2.2.2.2.2
@[elab_as_elim] theorem inv_idt {ks : List Int} {v : Value} {C : Value → Prop} (h : Rep σ r X (.idt ks) v) (H : ∀ a o vs, (a, o) ∈ X → (a == sysModules) = false → ks.length = vs.length → o.IsDictOf (intK σ) (ks.zip vs) → C (.ref a)) : C v :=
  Exists.elim h fun a h => Exists.elim h fun o h => Exists.elim h fun vs h => h.1 ▸ H a o vs h.2.1 h.2.2.1 h.2.2.2.1 h.2.2.2.2
@[elab_as_elim] theorem inv_vec {k : PySem.Str} {it at' : PV} {v : Value} {C : Value → Prop} (h : Rep σ r X (.vec k it at') v) (H : ∀ a d es n t vi va, (a, instObj 246 d) ∈ X → (d, dictOf es n) ∈ X → At es "kind" (.str k t) → At es "items" vi → At es "attrs" va → Rep σ r X it vi → Rep σ r X at' va → C (.ref a)) : C v :=
  Exists.elim h fun a h => Exists.elim h fun d h => Exists.elim h fun es h => Exists.elim h fun n h => Exists.elim h fun vk h => Exists.elim h fun vi h => Exists.elim h fun va h => Exists.elim h.2.2.2.2.2.2.1 fun t e => h.1 ▸ H a d es n t vi va h.2.1 h.2.2.1 (e ▸ h.2.2.2.1) h.2.2.2.2.1 h.2.2.2.2.2.1 h.2.2.2.2.2.2.2.1 h.2.2.2.2.2.2.2.2
@[elab_as_elim] theorem inv_nul {v : Value} {C : Value → Prop} (h : Rep σ r X .null v) (H : ∀ a d es n t, (a, instObj 196 d) ∈ X → (d, dictOf es n) ∈ X → At es "kind" (.str "NULL" t) → At es "attrs" .none → C (.ref a)) : C v :=
  Exists.elim h fun a h => Exists.elim h fun d h => Exists.elim h fun es h => Exists.elim h fun n h => Exists.elim h fun t h => h.1 ▸ H a d es n t h.2.1 h.2.2.1 h.2.2.2.1 h.2.2.2.2
@[elab_as_elim] theorem inv_mis {v : Value} {C : Value → Prop} (h : Rep σ r X .missing v) (H : ∀ a d es n t, (a, instObj 217 d) ∈ X → (d, dictOf es n) ∈ X → At es "kind" (.str "missing" t) → At es "attrs" .none → C (.ref a)) : C v :=
  Exists.elim h fun a h => Exists.elim h fun d h => Exists.elim h fun es h => Exists.elim h fun n h => Exists.elim h fun t h => h.1 ▸ H a d es n t h.2.1 h.2.2.1 h.2.2.2.1 h.2.2.2.2
theorem repSd {ks : List PySem.Str} {l : List PV} {a : Addr} {o : Obj} {vs : List Value} (h1 : (a, o) ∈ X) (h2 : (a == sysModules) = false) (h3 : ks.length = vs.length) (h4 : o.IsDictOf (strK σ) (ks.zip vs)) (h5 : Reps σ r X l vs) : Rep σ r X (.sd ks l) (.ref a) := ⟨a, o, vs, rfl, h1, h2, h3, h4, h5⟩
theorem repIdt {ks : List Int} {a : Addr} {o : Obj} {vs : List Value} (h1 : (a, o) ∈ X) (h2 : (a == sysModules) = false) (h3 : ks.length = vs.length) (h4 : o.IsDictOf (intK σ) (ks.zip vs)) : Rep σ r X (.idt ks) (.ref a) := ⟨a, o, vs, rfl, h1, h2, h3, h4⟩
theorem repVec {k : PySem.Str} {it at' : PV} {a d : Addr} {es : List DictEntry} {n : Nat} {t : Tok} {vi va : Value} (h1 : (a, instObj 246 d) ∈ X) (h2 : (d, dictOf es n) ∈ X) (h3 : At es "kind" (.str k t)) (h4 : At es "items" vi) (h5 : At es "attrs" va) (h6 : Rep σ r X it vi) (h7 : Rep σ r X at' va) : Rep σ r X (.vec k it at') (.ref a) := ⟨a, d, es, n, .str k t, vi, va, rfl, h1, h2, h3, h4, h5, ⟨t, rfl⟩, h6, h7⟩
theorem repI {i : Int} {t : Tok} : Rep σ r X (.int i) (.int i t) := by exact ⟨t, rfl⟩
theorem repS {x : PySem.Str} {t : Tok} : Rep σ r X (.str x) (.str x t) := by exact ⟨t, rfl⟩
theorem repN : Rep σ r X .none .none := rfl
theorem repB {b : Bool} : Rep σ r X (.bool b) (.bool b) := rfl
theorem repL {l : List PV} {a : Addr} {vs : List Value} {n : Nat} (h : (a, lst vs n) ∈ X) (h' : Reps σ r X l vs) : Rep σ r X (.list l) (.ref a) := by exact ⟨a, vs, n, rfl, h, h'⟩
theorem repT {l : List PV} {a : Addr} {vs : List Value} (h : (a, TupO vs) ∈ X) (h' : Reps σ r X l vs) : Rep σ r X (.tup l) (.ref a) := by exact ⟨a, vs, rfl, h, h'⟩
/-- None is None's own value -/
@[elab_as_elim] theorem rep_rng {n : Int} {v : Value} {C : Value → Prop} (h : Rep σ r X (.rng n) v) (H : ∀ a t u w, (a, rngO n t u w) ∈ X → C (.ref a)) : C v := Exists.elim h fun a h => Exists.elim h fun t h => Exists.elim h fun u h => Exists.elim h fun w h => h.1 ▸ H a t u w h.2
theorem repR {n : Int} {a : Addr} {t u w : Tok} (h : (a, rngO n t u w) ∈ X) : Rep σ r X (.rng n) (.ref a) := ⟨a, t, u, w, rfl, h⟩
theorem rep_isN {p : PV} {v : Value} (h : Rep σ r X p v) : (v == Value.none) = isN p := by
  cases p with
  | none => rw [rep_none h]; rfl
  | bool b => rw [rep_bool h]; rfl
  | int i => exact rep_int h fun _ => rfl
  | str x => exact rep_str h fun _ => rfl
  | list l => exact rep_list h fun _ _ _ _ _ => rfl
  | tup l => exact rep_tup h fun _ _ _ _ => rfl
  | sd ks l => exact inv_sd h fun _ _ _ _ _ _ _ _ => rfl
  | idt ks => exact inv_idt h fun _ _ _ _ _ _ _ => rfl
  | vec k i a => exact inv_vec h fun _ _ _ _ _ _ _ _ _ _ _ _ _ _ => rfl
  | null => exact inv_nul h fun _ _ _ _ _ _ _ _ _ => rfl
  | missing => exact inv_mis h fun _ _ _ _ _ _ _ _ _ => rfl
  | row => obtain ⟨a, _, rfl⟩ := h; rfl
  | rng n => exact rep_rng h fun _ _ _ _ _ => rfl
theorem rep_handed {p : PV} {v : Value} (h : Rep σ r X p v) : handedIn v = true := by
  cases p with
  | none => rw [rep_none h]; rfl
  | bool b => rw [rep_bool h]; rfl
  | int i => exact rep_int h fun _ => rfl
  | str x => exact rep_str h fun _ => rfl
  | list l => exact rep_list h fun _ _ _ _ _ => rfl
  | tup l => exact rep_tup h fun _ _ _ _ => rfl
  | sd ks l => exact inv_sd h fun _ _ _ _ _ _ _ _ => rfl
  | idt ks => exact inv_idt h fun _ _ _ _ _ _ _ => rfl
  | vec k i a => exact inv_vec h fun _ _ _ _ _ _ _ _ _ _ _ _ _ _ => rfl
  | null => exact inv_nul h fun _ _ _ _ _ _ _ _ _ => rfl
  | missing => exact inv_mis h fun _ _ _ _ _ _ _ _ _ => rfl
  | row => obtain ⟨a, _, rfl⟩ := h; rfl
  | rng n => exact rep_rng h fun _ _ _ _ _ => rfl
end

/-- what a name holds -/
noncomputable def Holds (ns : List (PySem.Str × NameKind)) (cs : List (PySem.Str × Addr)) (m : Know) (M : Mut) (x : PySem.Str) (v : Value) : Prop :=
  ((x, NameKind.local) ∈ ns ∧ (x, some (some v)) ∈ m) ∨ (((x, NameKind.cell) ∈ ns ∨ (x, NameKind.free) ∈ ns) ∧ ∃ c, cs.lookup x = some c ∧ (c, CellP (some v)) ∈ M)
/-- an own object: its dict's entries -/
noncomputable def InstP (C d : Addr) : Obj → Prop := fun o => o = instObj C d
noncomputable def VecP (vk vi va : Value) : Obj → Prop := fun o => ∃ es n, o = dictOf es n ∧ es.length ≤ 5 ∧ At es "kind" vk ∧ At es "items" vi ∧ At es "attrs" va
noncomputable abbrev lamQual : PySem.Str := "law.<locals>.<lambda>"
/-- the codes of a table stand -/
noncomputable def TabOK (X : Led) (ps : Array Value) : Prop := TriplesOk ps.toList ∧ ∀ pos cv, codeAmong pos ps.toList = some cv → ∃ c oc vs t, cv = .ref c ∧ (c, oc) ∈ X ∧ oc.data = .fields vs ∧ vs[1]? = some (.str lamQual t)
/-- own objects; o: which addresses are tagged -/
inductive OlIs (σ : Sig) (r : Option Addr) (X : Led) (M : Mut) (o : Addr → Prop) (l : List PV) : Value → Prop where
  | mk (a : Addr) (vs : List Value) (h1 : o a) (h2 : (a, LsP vs) ∈ M) (h3 : Reps σ r X l vs) : OlIs σ r X M o l (.ref a)
inductive OsIs (σ : Sig) (r : Option Addr) (X : Led) (M : Mut) (o : Addr → Prop) (ks : List PySem.Str) (l : List PV) : Value → Prop where
  | mk (a : Addr) (vs : List Value) (h1 : o a) (h2 : (a, fun o => o.IsDictOf (strK σ) (ks.zip vs)) ∈ M) (h3 : (a == sysModules) = false) (h4 : ks.length = vs.length) (h5 : Reps σ r X l vs) : OsIs σ r X M o ks l (.ref a)
inductive OiIs (σ : Sig) (M : Mut) (o : Addr → Prop) (ks : List Int) : Value → Prop where
  | mk (a : Addr) (vs : List Value) (h1 : o a) (h2 : (a, fun o => o.IsDictOf (intK σ) (ks.zip vs)) ∈ M) (h3 : (a == sysModules) = false) (h4 : ks.length = vs.length) : OiIs σ M o ks (.ref a)
noncomputable def AtIs (σ : Sig) (r : Option Addr) (X : Led) (M : Mut) (o : Addr → Prop) (d : Addr) (at' : Option (List PySem.Str × List PV)) (v : Value) : Prop := match at' with
  | none => v = .none
  | some p => OsIs σ r X M (fun e => o e ∧ d ≠ e) p.1 p.2 v
inductive OvIs (σ : Sig) (r : Option Addr) (X : Led) (M : Mut) (o : Addr → Prop) (k : PySem.Str) (it : PV) (at' : Option (List PySem.Str × List PV)) : Value → Prop where
  | mk (a d : Addr) (t : Tok) (vi va : Value) (h1 : o a) (h2 : o d) (h3 : (a, InstP 246 d) ∈ M) (h4 : (d, VecP (.str k t) vi va) ∈ M) (h5 : Rep σ r X it vi) (h6 : AtIs σ r X M o d at' va) : OvIs σ r X M o k it at' (.ref a)
noncomputable def BRepG (σ : Sig) (r : Option Addr) (X : Led) (M : Mut) (o : Addr → Prop) (b : Bd) (v : Value) : Prop := match b with
  | .u => True
  | .tab => o 505 ∧ ∃ ps, (505, fun o => o = tabObj ps) ∈ M ∧ TabOK X ps
  | .v p => Rep σ r X p v
  | .ol l => OlIs σ r X M o l v
  | .os ks l => OsIs σ r X M o ks l v
  | .oi ks => OiIs σ M o ks v
  | .ov k it at' => OvIs σ r X M o k it at' v
noncomputable abbrev BRep (σ : Sig) (r : Option Addr) (X : Led) (M : Mut) : Bd → Value → Prop := BRepG σ r X M fun _ => True
noncomputable abbrev Own := List (Nat × Addr)
noncomputable abbrev BRepO (σ : Sig) (r : Option Addr) (X : Led) (M : Mut) (O : Own) (i : Nat) : Bd → Value → Prop := BRepG σ r X M fun a => (i, a) ∈ O

structure Rel (σ : Sig) (r : Option Addr) (cx : Cx) (cs : List (PySem.Str × Addr)) (ρ : List Bd) (L : Addr) (m : Know) (Fs : List (Addr × Know)) (M : Mut) (X : Led) (s : Shared) : Prop where
  st : St σ L m Fs M X s
  row : ∀ a, r = some a → (a, RowO) ∈ M
  val : ∀ x i b, isVar cx x = some i → ρ[i]? = some b → b ≠ .u → ∃ v, Holds cx.ns cs m M x v ∧ BRep σ r X M b v
  cl : ∀ y, (y, NameKind.cell) ∈ cx.ns → ∃ c, cs.lookup y = some c
  len : ρ.length = cx.d

noncomputable def ExcP (d : Addr) (T : Value) : Obj → Prop := fun o => o.cls = .ref 75 ∧ o.dict = some d ∧ ∃ vs, o.data = .fields vs ∧ vs[1]? = some T
noncomputable def TbP : Obj → Prop := fun o => ∃ ts, o.data = .fields ts ∧ ts[3]? = some .none
noncomputable def MsgP (msg : PySem.Str) : Obj → Prop := fun o => ∃ es n t, o = dictOf es n ∧ At es "message" (.str msg t)
/-- a Refusal in flight -/
noncomputable def Raised (σ : Sig) (L : Addr) (m : Know) (Fs : List (Addr × Know)) (M : Mut) (X : Led) (s : Shared) (v : Value) (msg : PySem.Str) : Prop :=
  ∃ e d, v = .ref e ∧ ((∃ T, St σ L m Fs ((e, ExcP d (.ref T)) :: (T, TbP) :: (d, MsgP msg) :: M) X s) ∨ St σ L m Fs ((e, ExcP d .none) :: (d, MsgP msg) :: M) X s)

/-- what a call of a def does -/
noncomputable def Ct (σ : Sig) (k : Nat) (f : Addr) (args : List PV) (Q : PV → Prop) (R : PySem.Str → Prop) : Prop :=
  ∀ (r : Option Addr) (A : Around) (E : Value → Shared → Prop) (L : Addr) (m : Know) (Fs : List (Addr × Know)) (M : Mut) (X : Led) (s : Shared) (vs : List Value) (Q' : Value → Shared → Prop),
    St σ L m Fs M X s → (∀ a, r = some a → (a, RowO) ∈ M) → Rm A k (L :: Fs.map (·.1)) → Reps σ r X args vs →
    (∀ v p s' X', Sub X X' → St σ L m Fs M X' s' → Rep σ r X' p v → Q p → Q' v s') →
    (∀ v msg s' X', Sub X X' → Raised σ L m Fs M X' s' v msg → R msg → E v s') →
    wpAny σ.M A (call (.ref f) vs) Q' E s

section
variable {σ : Sig} {r : Option Addr} {cx : Cx} {cs : List (PySem.Str × Addr)} {ρ : List Bd} {L : Addr} {m : Know} {Fs : List (Addr × Know)} {M : Mut} {X X' : Led} {s s' : Shared}
theorem TabOK.mono (hs : Sub X X') {ps : Array Value} (h : TabOK X ps) : TabOK X' ps := ⟨h.1, fun pos cv e => let ⟨c, oc, vs, t, h1, h2, h3⟩ := h.2 pos cv e; ⟨c, oc, vs, t, h1, hs _ h2, h3⟩⟩
theorem OsIs.mono {M' : Mut} {o o' : Addr → Prop} {ks : List PySem.Str} {l : List PV} {v : Value} (h : OsIs σ r X M o ks l v) (hX : Sub X X') (hM : ∀ p ∈ M, o p.1 → p ∈ M') (ho : ∀ a, o a → o' a) : OsIs σ r X' M' o' ks l v := by
  cases h with
  | mk a vs h1 h2 h3 h4 h5 => exact .mk a vs (ho _ h1) (hM _ h2 h1) h3 h4 (h5.mono hX)
theorem BRepG.mono {M' : Mut} {o o' : Addr → Prop} {b : Bd} {v : Value} (h : BRepG σ r X M o b v) (hX : Sub X X') (hM : ∀ p ∈ M, o p.1 → p ∈ M') (ho : ∀ a, o a → o' a) : BRepG σ r X' M' o' b v := by
  cases b with
  | u => trivial
  | tab => exact ⟨ho _ h.1, h.2.elim fun ps q => ⟨ps, hM _ q.1 h.1, q.2.mono hX⟩⟩
  | v p => exact Rep.mono hX p v h
  | ol l => cases h with
    | mk a vs h1 h2 h3 => exact .mk a vs (ho _ h1) (hM _ h2 h1) (h3.mono hX)
  | os ks l => exact OsIs.mono h hX hM ho
  | oi ks => cases h with
    | mk a vs h1 h2 h3 h4 => exact .mk a vs (ho _ h1) (hM _ h2 h1) h3 h4
  | ov k it at' => cases h with
    | mk a d t vi va h1 h2 h3 h4 h5 h6 =>
      refine .mk a d t vi va (ho _ h1) (ho _ h2) (hM _ h3 h1) (hM _ h4 h2) (Rep.mono hX _ _ h5) ?_
      cases at' with
      | none => exact h6
      | some p => exact OsIs.mono h6 hX (fun p hp h => hM p hp h.1) fun a h => ⟨ho _ h.1, h.2⟩
theorem Rel.grow (R : Rel σ r cx cs ρ L m Fs M X s) (hs : Sub X X') (S : St σ L m Fs M X' s') : Rel σ r cx cs ρ L m Fs M X' s' :=
  ⟨S, R.row, fun x i b h1 h2 h3 => let ⟨v, a, c⟩ := R.val x i b h1 h2 h3; ⟨v, a, c.mono hs (fun _ h _ => h) fun _ h => h⟩, R.cl, R.len⟩
end
end Mine

end
section
open PySem PySem.W PySem.Calls PyProof.Rows PySem.Spec
set_option Elab.async false
set_option maxRecDepth 100000
set_option linter.unusedVariables false
namespace Mine
theorem St.getX {σ : Sig} {L : Addr} {m : Know} {Fs : List (Addr × Know)} {M : Mut} {X : Led} {s : Shared} (S : St σ L m Fs M X s) {a : Addr} {o : Obj} (h : (a, o) ∈ X) : s.heap.get? a = some o := S.fz (a, o) h
theorem St.isList {σ : Sig} {L : Addr} {m : Know} {Fs : List (Addr × Know)} {M : Mut} {X : Led} {s : Shared} (S : St σ L m Fs M X s) {a : Addr} {vs : List Value} {n : Nat} (h : (a, lst vs n) ∈ X) : s.heap.IsList a vs.toArray := ⟨_, S.getX h, rfl, n, rfl⟩
theorem St.isTup {σ : Sig} {L : Addr} {m : Know} {Fs : List (Addr × Know)} {M : Mut} {X : Led} {s : Shared} (S : St σ L m Fs M X s) {a : Addr} {vs : List Value} (h : (a, TupO vs) ∈ X) : s.heap.IsTuple a vs.toArray := ⟨_, S.getX h, rfl, 0, rfl⟩
theorem St.dictX {σ : Sig} {L : Addr} {m : Know} {Fs : List (Addr × Know)} {M : Mut} {X : Led} {s : Shared} (S : St σ L m Fs M X s) {K : Type} [DecidableEq K] {knd : KeyKind σ.prog σ.w K} {a : Addr} {o : Obj} {kvs : List (K × Value)} (h : (a, o) ∈ X) (hd : o.IsDictOf knd kvs) : s.heap.DictOf knd a kvs := Heap.dictOf_iff.mpr ⟨o, S.getX h, hd⟩

section
variable {σ : Sig} {r : Option Addr} {L : Addr} {m : Know} {Fs : List (Addr × Know)} {M : Mut} {X : Led} {s : Shared}
theorem all_true (n : Nat) : ((List.range n).all fun _ => true) = true := by simp
theorem empty_any {o : Obj} {prog : Program} {w : World} {vs : List Value} (h : o.IsDictOf (strK σ) (([] : List PySem.Str).zip vs)) : o.IsDictOf (strKind prog w) ([] : List (PySem.Str × Value)) := by
  obtain ⟨es, ep, h1, h2, h3, h4, h5⟩ := h
  have e : es.toList = [] := by
    have := h4.length
    simpa using this
  have e' : es = #[] := by simpa using e
  subst e'
  exact ⟨_, ep, h1, h2, (fun e he => by simp at he), .nil, .nil⟩
theorem empty_ok (S : St σ L m Fs M X s) {A : Around} (hu : A.units < cLine) {v w : Value} (h1 : Rep σ r X (.sd [] []) v) (h2 : Rep σ r X (.sd [] []) w) : SeqAt.EqAt A s v w true := by
  refine inv_sd h1 fun a o vs ha hma _ hda _ => ?_
  refine inv_sd h2 fun b o2 ws hb hmb _ hdb _ => ?_
  by_cases hab : a = b
  · subst hab; exact SeqAt.EqAt.same _
  · refine SeqAt.EqAt.of_refs hab fun prog w E Q h => ?_
    exact keq_eq (knd := strKind prog w) (ka := []) (kb := []) (r := true) hma hmb (Heap.dictOf_iff.mpr ⟨o, S.getX ha, empty_any hda⟩) (Heap.dictOf_iff.mpr ⟨o2, S.getX hb, empty_any hdb⟩) hu (fun _ => .nil) (by simpa using h)
theorem el_pair {P : Value → Value → Prop} {l : List PV} {vs ws : List Value} (hv : Reps σ r X l vs) (hw : Reps σ r X l ws) (f : ∀ q ∈ l, ∀ v w, Rep σ r X q v → Rep σ r X q w → P v w) (j : Nat) (h1 : j < vs.toArray.size) (h2 : j < ws.toArray.size) : P vs.toArray[j] ws.toArray[j] := by
  obtain ⟨q, hq, hq'⟩ := hv.get' (i := j) (v := vs.toArray[j]) (by rw [List.getElem_toArray]; exact List.getElem?_eq_getElem h1)
  obtain ⟨q2, hq2, hq2'⟩ := hw.get' (i := j) (v := ws.toArray[j]) (by rw [List.getElem_toArray]; exact List.getElem?_eq_getElem h2)
  rw [hq] at hq2; cases hq2
  exact f q (List.mem_of_getElem? hq) _ _ hq' hq2'
theorem el_size {l : List PV} {vs ws : List Value} (hv : Reps σ r X l vs) (hw : Reps σ r X l ws) : vs.toArray.size = ws.toArray.size := by rw [List.size_toArray, List.size_toArray, ← hv.length, ← hw.length]
theorem eqIn_sd {n : Nat} {ks : List PySem.Str} {l : List PV} (h : eqIn n (.sd ks l) = true) : ks = [] ∧ l = [] := by
  cases ks with
  | nil => cases l with
    | nil => exact ⟨rfl, rfl⟩
    | cons _ _ => cases n <;> exact fT h
  | cons _ _ => cases n <;> exact fT h
theorem eqIn_leaf (S : St σ L m Fs M X s) {p : PV} {A : Around} {v w : Value} (hp : eqIn 0 p = true) (hu : A.units < cLine) (h1 : Rep σ r X p v) (h2 : Rep σ r X p w) : SeqAt.EqAt A s v w true := by
  cases p with
  | none => rw [rep_none h1, rep_none h2]; exact SeqAt.EqAt.same _
  | bool b => rw [rep_bool h1, rep_bool h2]; exact SeqAt.EqAt.same _
  | int i => refine rep_int h1 fun t => ?_; refine rep_int h2 fun u => ?_; exact (beq_self_eq_true i) ▸ SeqAt.EqAt.int_int (A := A) (s := s) i t i u
  | str i => refine rep_str h1 fun t => ?_; refine rep_str h2 fun u => ?_; exact (beq_self_eq_true i) ▸ SeqAt.EqAt.str_str (A := A) (s := s) i t i u
  | sd ks l => obtain ⟨rfl, rfl⟩ := eqIn_sd hp; exact empty_ok S hu h1 h2
  | _ => exact fT hp
theorem eqIn_ok (S : St σ L m Fs M X s) : ∀ (n : Nat) (p : PV), eqIn n p = true → ∀ (A : Around), A.units + n < cLine → ∀ v w, Rep σ r X p v → Rep σ r X p w → SeqAt.EqAt A s v w true := by
  intro n
  induction n with
  | zero => exact fun p hp A hu v w h1 h2 => eqIn_leaf S hp hu h1 h2
  | succ n ih =>
    intro p hp A hu v w h1 h2
    have hu' : A.in1.units + n < cLine := by show A.units + 1 + n < cLine; rw [Nat.add_right_comm]; exact hu
    have hz : A.units < cLine := Nat.lt_of_le_of_lt (Nat.le_add_right _ _) hu
    cases p with
    | list l =>
      refine rep_list h1 fun a vs n1 ha hv => ?_
      refine rep_list h2 fun b ws n2 hb hw => ?_
      by_cases hab : a = b
      · subst hab; exact SeqAt.EqAt.same _
      · have := SeqAt.RcAt.lists (e := fun _ => true) (A := A) (S.isList ha) (S.isList hb) (el_size hv hw) hz (el_pair hv hw fun q hq _ _ => ih q (List.all_eq_true.mp hp q hq) A.in1 hu' _ _)
        rw [all_true] at this
        exact SeqAt.EqAt.of_refs hab this
    | tup l =>
      refine rep_tup h1 fun a vs ha hv => ?_
      refine rep_tup h2 fun b ws hb hw => ?_
      by_cases hab : a = b
      · subst hab; exact SeqAt.EqAt.same _
      · have := SeqAt.RcAt.tuples (e := fun _ => true) (A := A) (S.isTup ha) (S.isTup hb) hz (el_pair hv hw fun q hq _ _ => ih q (List.all_eq_true.mp hp q hq) A.in1 hu' _ _)
        rw [all_true, el_size hv hw, beq_self_eq_true] at this
        exact SeqAt.EqAt.of_refs hab this
    | sd ks l => obtain ⟨rfl, rfl⟩ := eqIn_sd hp; exact eqIn_leaf S rfl hz h1 h2
    | none => exact eqIn_leaf S rfl hz h1 h2
    | bool b => exact eqIn_leaf S rfl hz h1 h2
    | int i => exact eqIn_leaf S rfl hz h1 h2
    | str x => exact eqIn_leaf S rfl hz h1 h2
    | _ => exact fT hp
/-- equal in this model -/
noncomputable def EqF (σ : Sig) (A : Around) (s : Shared) (v w : Value) : Prop := ∀ (E : Value → Shared → Prop) (Q : Bool → Shared → Prop), Q true s → wpAny σ.M A (eqBool v w) Q E s
theorem tupEq (l b : Addr) (items items2 : Array Value) (hsz : items.size = items2.size) :
    MeetsIn σ.prog σ.w (Builtin.«tuple.__eq__» ⟨[.ref l, .ref b], []⟩)
      (fun A R s => s.heap.get? l = some { cls := .type "tuple", data := .seq items } ∧ s.heap.get? b = some { cls := .type "tuple", data := .seq items2 } ∧
        (∀ j (h1 : j < items.size) (h2 : j < items2.size), EqF σ A.in1 s items[j] items2[j]) ∧ R (.ok (.ret (.bool true))) s) :=
  .of_wp fun A R s h => by
    obtain ⟨hp, g, d, tk, os⟩ := s; obtain ⟨hl, hb, he, h⟩ := h
    have f2 := AutoSeq1.sub_tuple_tuple
    have hZ : (items.toList.zip items2.toList).length = items.size := by simp [hsz]
    wp_walk using AutoSeq1.wpAny_loadPart' hl, AutoSeq1.wpAny_loadPart' hb, wpAny_forIn_list _ (fun rest b s' => b.1 = none ∧ s' = ⟨hp, g, d, tk, os⟩ ∧ ∃ i, rest = (items.toList.zip items2.toList).drop i) _
    case turn =>
      rintro ⟨y, x⟩ rest b s' ⟨hb', rfl, i, hz⟩
      have hlt : i < (items.toList.zip items2.toList).length := by
        rcases Nat.lt_or_ge i (items.toList.zip items2.toList).length with h' | h'
        · exact h'
        · rw [List.drop_of_length_le h'] at hz; cases hz
      have h1 : i < items.size := hZ ▸ hlt
      have h2 : i < items2.size := hsz ▸ h1
      rw [List.drop_eq_getElem_cons hlt] at hz
      injection hz with hyx hrest
      have hy : y = items[i] := by have := congrArg Prod.fst hyx; simpa using this
      have hx : x = items2[i] := by have := congrArg Prod.snd hyx; simpa using this
      subst hy hx
      refine wpAny_bind (he i h1 h2 _ _ ?_)
      wp_walk
      exact ⟨rfl, rfl, i + 1, hrest⟩
    case fin =>
      rintro ⟨b1, b2⟩ s' ⟨hb', rfl, i, hz⟩
      simp only at hb'
      subst hb'
      wp_walk
      exact ⟨_, rfl, by simpa [Builtin.Tuple.tupleCompareSizes, hsz] using h⟩
    case h =>
      exact ⟨rfl, rfl, 0, rfl⟩
theorem tupNe (l b : Addr) (items items2 : Array Value) (hsz : items.size = items2.size) :
    MeetsIn σ.prog σ.w (Builtin.«tuple.__ne__» ⟨[.ref l, .ref b], []⟩)
      (fun A R s => s.heap.get? l = some { cls := .type "tuple", data := .seq items } ∧ s.heap.get? b = some { cls := .type "tuple", data := .seq items2 } ∧
        (∀ j (h1 : j < items.size) (h2 : j < items2.size), EqF σ A.in1 s items[j] items2[j]) ∧ R (.ok (.ret (.bool false))) s) :=
  .of_wp fun A R s h => by
    obtain ⟨hp, g, d, tk, os⟩ := s; obtain ⟨hl, hb, he, h⟩ := h
    have f2 := AutoSeq1.sub_tuple_tuple
    have hZ : (items.toList.zip items2.toList).length = items.size := by simp [hsz]
    wp_walk using AutoSeq1.wpAny_loadPart' hl, AutoSeq1.wpAny_loadPart' hb, wpAny_forIn_list _ (fun rest b s' => b.1 = none ∧ s' = ⟨hp, g, d, tk, os⟩ ∧ ∃ i, rest = (items.toList.zip items2.toList).drop i) _
    case turn =>
      rintro ⟨y, x⟩ rest b s' ⟨hb', rfl, i, hz⟩
      have hlt : i < (items.toList.zip items2.toList).length := by
        rcases Nat.lt_or_ge i (items.toList.zip items2.toList).length with h' | h'
        · exact h'
        · rw [List.drop_of_length_le h'] at hz; cases hz
      have h1 : i < items.size := hZ ▸ hlt
      have h2 : i < items2.size := hsz ▸ h1
      rw [List.drop_eq_getElem_cons hlt] at hz
      injection hz with hyx hrest
      have hy : y = items[i] := by have := congrArg Prod.fst hyx; simpa using this
      have hx : x = items2[i] := by have := congrArg Prod.snd hyx; simpa using this
      subst hy hx
      refine wpAny_bind (he i h1 h2 _ _ ?_)
      wp_walk
      exact ⟨rfl, rfl, i + 1, hrest⟩
    case fin =>
      rintro ⟨b1, b2⟩ s' ⟨hb', rfl, i, hz⟩
      simp only at hb'
      subst hb'
      wp_walk
      exact ⟨_, rfl, by simpa [Builtin.Tuple.tupleCompareSizes, hsz] using h⟩
    case h =>
      exact ⟨rfl, rfl, 0, rfl⟩

theorem eqIn_mono : ∀ (n : Nat) (p : PV), eqIn n p = true → eqIn (n + 1) p = true := by
  intro n
  induction n with
  | zero => intro p h; cases p with
    | sd ks l => obtain ⟨rfl, rfl⟩ := eqIn_sd h; rfl
    | list l => exact fT h
    | tup l => exact fT h
    | _ => exact h
  | succ n ih => intro p h; cases p with
    | list l => exact List.all_eq_true.mpr fun q hq => ih q (List.all_eq_true.mp h q hq)
    | tup l => exact List.all_eq_true.mpr fun q hq => ih q (List.all_eq_true.mp h q hq)
    | sd ks l => obtain ⟨rfl, rfl⟩ := eqIn_sd h; rfl
    | _ => exact h
theorem EqF.of_at {A : Around} {v w : Value} (h : SeqAt.EqAt A s v w true) : EqF σ A s v w := fun E Q hq => h _ _ E Q hq
theorem EqF.of_refs {A : Around} {l b : Addr} (hne : l ≠ b) (h : ∀ (E : Value → Shared → Prop) (Q : Value → Shared → Prop), Q (.bool true) s → wpAny σ.M A (richCompare .Eq (.ref l) (.ref b)) Q E s) : EqF σ A s (.ref l) (.ref b) := fun E Q hq => by
  unfold eqBool
  refine wpAny_holding (wpAny_ite_split (fun hab => absurd (by have := eq_of_beq hab; injection this) hne) fun _ => ?_)
  exact wpAny_bind (h E _ (wpAny_truthy_bool hq))
theorem zip_hits (S : St σ L m Fs M X s) {A : Around} (hu : A.units + 6 < cLine) : ∀ (ks : List PySem.Str) (l : List PV) (vs ws us : List Value) (ks0 : List PySem.Str), l.all (eqIn 6) = true → ks.length = vs.length → ks.length = ws.length → Reps σ r X l vs → Reps σ r X l ws →
    (∀ (i : Nat) (k : PySem.Str) (w : Value), (ks.zip ws)[i]? = some (k, w) → valueAt (ks0.zip us) k = some w) → KeqHits A s (ks0.zip us) (ks.zip vs) true
  | [], _, vs, ws, us, ks0, _, _, _, _, _, _ => by simp only [List.zip_nil_left]; exact .nil
  | k :: ks, l, vs, ws, us, ks0, hl, h1, h2, hv, hw, hk => by
    cases l with
    | nil => rw [hv.inv0] at h1; cases h1
    | cons p l =>
      revert h1; refine hv.inv fun v vs hv1 hv2 h1 => ?_
      revert h2 hk; refine hw.inv fun w ws hw1 hw2 h2 hk => ?_
      rw [List.all_cons, Bool.and_eq_true] at hl
      have hit := zip_hits S hu ks l vs ws us ks0 hl.2 (by simpa using h1) (by simpa using h2) hv2 hw2 fun i k w e => hk (i + 1) k w (by simpa using e)
      have := KeqHits.hit (A := A) (s := s) (k := k) (v := v) (hk 0 k w (by simp)) (eqIn_ok S 6 p hl.1 A hu _ _ hv1 hw1) hit
      simpa using this
theorem sdEqF (S : St σ L m Fs M X s) {A : Around} (hu : A.units + 7 < cLine) {ks : List PySem.Str} {l : List PV} {v w : Value} (hl : l.all (eqIn 6) = true) (h1 : Rep σ r X (.sd ks l) v) (h2 : Rep σ r X (.sd ks l) w) : EqF σ A s v w := by
  refine inv_sd h1 fun a o vs ha hma hka hda hv => ?_
  refine inv_sd h2 fun b o2 ws hb hmb hkb hdb hw => ?_
  by_cases hab : a = b
  · subst hab; exact .of_at (SeqAt.EqAt.same _)
  · refine .of_refs hab fun E Q h => ?_
    have DB := S.dictX hb hdb
    have hn : ((ks.zip ws).map (·.1)).Nodup := by obtain ⟨_, _, _, _, _, _, h⟩ := hdb; exact h
    have hits := zip_hits S (A := A.in1) (by show A.units + 1 + 6 < cLine; omega) ks l vs ws ws ks hl hka hkb hv hw fun i k w e => valueAt_of_get hn e
    exact keq_eq (r := true) hma hmb (S.dictX ha hda) DB (by omega) (fun _ => hits) (by
      have : (ks.zip vs).length = (ks.zip ws).length := by simp [← hka, ← hkb]
      rw [this]; simpa using h)
theorem eqTop_elem {l : List PV} (hp : eqTop (.tup l) = true) {q : PV} (hq : q ∈ l) : eqIn 6 q = true ∨ ∃ ks l', q = .sd ks l' ∧ l'.all (eqIn 6) = true := by
  rcases (Bool.or_eq_true _ _).mp hp with h | h
  · exact .inl (eqIn_mono _ _ (List.all_eq_true.mp h q hq))
  · cases e : three? l with
    | none => rw [e] at h; exact fT h
    | some t =>
      rw [e] at h
      obtain ⟨a, b, c⟩ := t
      rw [three_eq e] at hq
      have h : eqT3 a b c = true := h
      cases a with
      | str x => cases c with
        | sd ks vs =>
          have h := (Bool.and_eq_true _ _).mp h
          cases hq with
          | head => exact .inl rfl
          | tail _ hq => cases hq with
            | head => exact .inl h.1
            | tail _ hq => cases hq with
              | head => exact .inr ⟨_, _, rfl, h.2⟩
              | tail _ hq => cases hq
        | _ => exact fT h
      | _ => exact fT h
theorem top_elems (S : St σ L m Fs M X s) {A : Around} (hu : A.units + 8 < cLine) {l : List PV} (hp : eqTop (.tup l) = true) {vs ws : List Value} (hv : Reps σ r X l vs) (hw : Reps σ r X l ws) :
    ∀ j (h1 : j < vs.toArray.size) (h2 : j < ws.toArray.size), EqF σ A s vs.toArray[j] ws.toArray[j] :=
  el_pair hv hw fun q hq v w h1 h2 => by
    rcases eqTop_elem hp hq with h | ⟨ks, l', rfl, h⟩
    · exact .of_at (eqIn_ok S 6 q h A (Nat.lt_of_le_of_lt (Nat.add_le_add_left (by decide) _) hu) _ _ h1 h2)
    · exact sdEqF S (A := A) (Nat.lt_of_le_of_lt (Nat.add_le_add_left (by decide) _) hu) h h1 h2
end
end Mine

end
section
open PySem PySem.W PySem.Calls PyProof.Rows PySem.Spec
set_option Elab.async false
set_option maxRecDepth 100000
set_option linter.unusedVariables false
namespace Mine

/-- closed facts on the text's own classes -/
structure KOK (K : Frag) : Prop where
  attr : ∀ C ∈ [246, 196, 217], ∀ f ∈ [Str.ofString "kind", Str.ofString "items", Str.ofString "attrs"], plainGet K C f = true ∧ findIn K (.ref C) f = some none
  hasD : ∀ C ∈ [246, 196, 217], hasDictIn K C = true
  isv : isIn K (.ref 246) 246 = true
  nst : ∀ D ∈ [246, 196], kin_notT K D "str" = true ∧ plainGet K D "__class__" = true ∧ findIn K (.ref D) "__class__" = some (some (.builtin "object.__class__")) ∧ mroIn K D (.type "object") = some true
  spc : specialIn K (.builtin "object.__class__") "__get__" = some (some (.builtin "getset_descriptor.__get__"))
  tks : takesIn K (.builtin "object.__class__") = some true

theorem Sub.refl (X : Led) : Sub X X := fun _ h => h
theorem Sub.cons (X : Led) (p : Addr × Obj) : Sub X (p :: X) := fun _ h => .tail _ h
theorem Sub.trans {X Y Z : Led} (h : Sub X Y) (h' : Sub Y Z) : Sub X Z := fun p hp => h' p (h p hp)
theorem sub_plain {slice : Expr} {o i : Value} (h : ∀ a b c p, slice ≠ .Slice a b c p) : subscripted slice false o i = operate [o, i] (getItem o i) := by
  unfold subscripted
  cases slice <;> first | rfl | (exact absurd rfl (h _ _ _ _))

section
variable {σ : Sig} {r : Option Addr} {A : Around} {E : Value → Shared → Prop} {L : Addr} {m : Know} {Fs : List (Addr × Know)} {M : Mut} {X : Led} {s : Shared} {Q : PV → Prop} {Q' : Value → Shared → Prop} {v w : Value} {p q : PV}

theorem St.sm (S : St σ L m Fs M X s) : (s.heap.objs.size == sysModules) = false := by
  have h := modules_low (S.ok.nolimit.keeps S.W)
  exact beq_eq_false_iff_ne.mpr fun e => by rw [e] at h; exact Nat.lt_irrefl _ h
theorem St.dictM (S : St σ L m Fs M X s) {K : Type} [DecidableEq K] {knd : KeyKind σ.prog σ.w K} {a : Addr} {kvs : List (K × Value)} (h : (a, fun o => o.IsDictOf knd kvs) ∈ M) : s.heap.DictOf knd a kvs := Heap.dictOf_iff.mpr (S.own _ h)

noncomputable abbrev Post (σ : Sig) (r : Option Addr) (L : Addr) (m : Know) (Fs : List (Addr × Know)) (M : Mut) (X : Led) (Q : PV → Prop) (Q' : Value → Shared → Prop) : Prop :=
  ∀ v p s' X', Sub X X' → St σ L m Fs M X' s' → Rep σ r X' p v → Q p → Q' v s'
noncomputable abbrev PostB (σ : Sig) (L : Addr) (m : Know) (Fs : List (Addr × Know)) (M : Mut) (X : Led) (Q : Bool → Prop) (Q' : Value → Shared → Prop) : Prop :=
  ∀ b s', St σ L m Fs M X s' → Q b → Q' (.bool b) s'

@[elab_as_elim] theorem intPair {p q : PV} {F : Int → Int → Prop} {C : PV → PV → Prop} (h : match p, q with | .int a, .int b => F a b | _, _ => False) (H : ∀ a b, F a b → C (.int a) (.int b)) : C p q := by
  cases p with
  | int a => cases q with
    | int b => exact H a b h
    | _ => exact False.elim h
  | _ => exact False.elim h
theorem s_bin {op : Operator} (S : St σ L m Fs M X s) (h1 : Rep σ r X p v) (h2 : Rep σ r X q w) (hw : binP op p q Q) (H : Post σ r L m Fs M X Q Q') : wpAny σ.M A (binaryOp op v w) Q' E s := by
  revert h1 h2
  cases op with
  | Add => refine intPair (p := p) (q := q) (F := fun a b => Q (.int (a + b))) hw fun a b hw h1 h2 => ?_; refine rep_int h1 fun t => ?_; refine rep_int h2 fun u => ?_; exact r_add S fun t s' S' => H _ _ _ X (Sub.refl X) S' repI hw
  | Sub => refine intPair (p := p) (q := q) (F := fun a b => Q (.int (a - b))) hw fun a b hw h1 h2 => ?_; refine rep_int h1 fun t => ?_; refine rep_int h2 fun u => ?_; exact r_sub S fun t s' S' => H _ _ _ X (Sub.refl X) S' repI hw
  | Mod => refine intPair (p := p) (q := q) (F := fun a b => b ≠ 0 ∧ Q (.int (a.fmod b))) hw fun a b hw h1 h2 => ?_; refine rep_int h1 fun t => ?_; refine rep_int h2 fun u => ?_; exact r_mod S hw.1 fun t s' S' => H _ _ _ X (Sub.refl X) S' repI hw.2
  | FloorDiv => refine intPair (p := p) (q := q) (F := fun a b => b ≠ 0 ∧ b.natAbs < 1073741824 ∧ Q (.int (a.fdiv b))) hw fun a b hw h1 h2 => ?_; refine rep_int h1 fun t => ?_; refine rep_int h2 fun u => ?_; exact r_div S hw.1 hw.2.1 fun t s' S' => H _ _ _ X (Sub.refl X) S' repI hw.2.2
  | _ => exact False.elim hw
theorem s_neg (S : St σ L m Fs M X s) (h1 : Rep σ r X p v) (hw : negP p Q) (H : Post σ r L m Fs M X Q Q') : wpAny σ.M A (unaryOp .USub v) Q' E s := by
  cases p <;> try exact hw.elim
  refine rep_int h1 fun t => ?_
  exact r_neg S fun t s' S' => H _ _ _ X (Sub.refl X) S' repI hw
theorem s_tru {Q : Bool → Prop} {Q' : Bool → Shared → Prop} (S : St σ L m Fs M X s) (h1 : Rep σ r X p v) (hw : truP p Q) (H : ∀ b s', St σ L m Fs M X s' → Q b → Q' b s') : wpAny σ.M A (truthy v) Q' E s := by
  cases p with
  | bool b => rw [rep_bool h1]; exact wpAny_truthy_bool (H _ _ S hw)
  | none => rw [rep_none h1]; exact truthy_none (H _ _ S hw)
  | _ => exact False.elim hw
theorem s_not (S : St σ L m Fs M X s) (h1 : Rep σ r X p v) (hw : truP p fun b => Q (.bool !b)) (H : Post σ r L m Fs M X Q Q') : wpAny σ.M A (unaryOp .Not v) Q' E s :=
  not_of (s_tru S h1 hw fun b s' S' hb => H _ _ _ X (Sub.refl X) S' repB hb)

@[elab_as_elim] theorem eqS_cases {p q : PV} {b : Bool} {C : PV → PV → Bool → Prop} (he : eqS p q = some b) (h1 : ∀ a b, C (.int a) (.int b) (a == b)) (h2 : ∀ a b, C (.str a) (.str b) (a == b)) (h3 : C .none .none true) (h4 : ∀ a, C .none (.int a) false) (h5 : ∀ a, C .none (.str a) false) (h6 : ∀ a, C (.int a) .none false) (h7 : ∀ a, C (.str a) .none false) : C p q b := by
  cases p with
  | int a => cases q with
    | int c => exact Option.some.inj he ▸ h1 a c
    | none => exact Option.some.inj he ▸ h6 a
    | _ => exact nS he
  | str a => cases q with
    | str c => exact Option.some.inj he ▸ h2 a c
    | none => exact Option.some.inj he ▸ h7 a
    | _ => exact nS he
  | none => cases q with
    | none => exact Option.some.inj he ▸ h3
    | int c => exact Option.some.inj he ▸ h4 c
    | str c => exact Option.some.inj he ▸ h5 c
    | _ => exact nS he
  | _ => exact nS he
theorem s_eqS {b : Bool} (he : eqS p q = some b) (h1 : Rep σ r X p v) (h2 : Rep σ r X q w) : SeqAt.EqAt A s v w b := by
  revert h1 h2
  exact eqS_cases he (fun a b h1 h2 => rep_int h1 fun t => rep_int h2 fun u => SeqAt.EqAt.int_int _ _ _ _) (fun a b h1 h2 => rep_str h1 fun t => rep_str h2 fun u => SeqAt.EqAt.str_str _ _ _ _)
    (fun h1 h2 => by rw [rep_none h1, rep_none h2]; exact SeqAt.EqAt.same _) (fun a h1 h2 => rep_int h2 fun u => by rw [rep_none h1]; exact SeqAt.EqAt.none_int _ _) (fun a h1 h2 => rep_str h2 fun u => by rw [rep_none h1]; exact SeqAt.EqAt.none_str _ _)
    (fun a h1 h2 => rep_int h1 fun u => by rw [rep_none h2]; exact SeqAt.EqAt.int_none _ _) (fun a h1 h2 => rep_str h1 fun u => by rw [rep_none h2]; exact SeqAt.EqAt.str_none _ _)
/-- a test and its negation -/
structure Both (σ : Sig) (A : Around) (L : Addr) (m : Know) (Fs : List (Addr × Know)) (M : Mut) (X : Led) (s : Shared) (o1 o2 : CmpOp) (v w : Value) (b : Bool) : Prop where
  yes : ∀ Q' E, (∀ s', St σ L m Fs M X s' → Q' (.bool b) s') → wpAny σ.M A (compareOp o1 v w) Q' E s
  not : ∀ Q' E, (∀ s', St σ L m Fs M X s' → Q' (.bool !b) s') → wpAny σ.M A (compareOp o2 v w) Q' E s
theorem s_eqC {b : Bool} (S : St σ L m Fs M X s) (he : eqS p q = some b) (h1 : Rep σ r X p v) (h2 : Rep σ r X q w) : Both σ A L m Fs M X s .Eq .NotEq v w b := by
  revert h1 h2
  exact eqS_cases he (fun a b h1 h2 => rep_int h1 fun t => rep_int h2 fun u => ⟨fun _ _ h => eq_int (h s S), fun _ _ h => ne_int (h s S)⟩) (fun a b h1 h2 => rep_str h1 fun t => rep_str h2 fun u => ⟨fun _ _ h => eq_str (h s S), fun _ _ h => ne_str (h s S)⟩)
    (fun h1 h2 => by rw [rep_none h1, rep_none h2]; exact ⟨fun _ _ h => EqNone.eq_none_none (h s S), fun _ _ h => EqNone.ne_none_none (h s S)⟩) (fun a h1 h2 => rep_int h2 fun u => by rw [rep_none h1]; exact ⟨fun _ _ h => EqNone.eq_none_int (h s S), fun _ _ h => EqNone.ne_none_int (h s S)⟩) (fun a h1 h2 => rep_str h2 fun u => by rw [rep_none h1]; exact ⟨fun _ _ h => EqNone.eq_none_str (h s S), fun _ _ h => EqNone.ne_none_str (h s S)⟩)
    (fun a h1 h2 => rep_int h1 fun u => by rw [rep_none h2]; exact ⟨fun _ _ h => EqNone.eq_int_none (h s S), fun _ _ h => EqNone.ne_int_none (h s S)⟩) (fun a h1 h2 => rep_str h1 fun u => by rw [rep_none h2]; exact ⟨fun _ _ h => EqNone.eq_str_none (h s S), fun _ _ h => EqNone.ne_str_none (h s S)⟩)
theorem s_listNil {l : List PV} (S : St σ L m Fs M X s) (hu : A.units + 16 < cLine) (h1 : Rep σ r X (.list l) v) (h2 : Rep σ r X (.list []) w) : Both σ A L m Fs M X s .Eq .NotEq v w l.isEmpty := by
  refine rep_list h1 fun a vs n ha hv => ?_
  refine rep_list h2 fun b ws n2 hb hw2 => ?_
  rw [hw2.inv0] at hb
  have hu' : A.units + 5 < cLine := Nat.lt_of_le_of_lt (Nat.add_le_add_left (by decide) _) hu
  cases l with
  | nil => rw [hv.inv0] at ha; exact ⟨fun Q' E h => SeqAt.RcAt.lists (e := fun _ => true) (S.isList ha) (S.isList hb) rfl (by omega) (fun j h1 h2 => nomatch h1) _ _ E Q' (h s S), fun Q' E h => SeqAt.RcNeAt.lists (e := fun _ => true) (S.isList ha) (S.isList hb) rfl (by omega) (fun j h1 h2 => nomatch h1) _ _ E Q' (h s S)⟩
  | cons p l =>
    revert ha; refine hv.inv fun v vs _ _ ha => ?_
    exact ⟨fun Q' E h => SeqAt.RcAt.lists_lengths (S.isList ha) (S.isList hb) (by simp) (by omega) _ _ E Q' (h s S), fun Q' E h => SeqAt.RcNeAt.lists_lengths (S.isList ha) (S.isList hb) (by simp) (by omega) _ _ E Q' (h s S)⟩
theorem s_listSelf {l : List PV} (S : St σ L m Fs M X s) (hu : A.units + 16 < cLine) (hp : eqIn 6 (.list l) = true) (h1 : Rep σ r X (.list l) v) (h2 : Rep σ r X (.list l) w) : Both σ A L m Fs M X s .Eq .NotEq v w true := by
  refine rep_list h1 fun a vs n ha hv => ?_
  refine rep_list h2 fun b ws n2 hb hw2 => ?_
  have hu' : A.units + 1 + 5 < cLine := by rw [Nat.add_assoc]; exact Nat.lt_of_le_of_lt (Nat.add_le_add_left (by decide) A.units) hu
  have hel := el_pair hv hw2 fun q hq _ _ => eqIn_ok S 5 q (List.all_eq_true.mp hp q hq) A.in1 hu' _ _
  have hz : A.units < cLine := Nat.lt_of_le_of_lt (Nat.le_add_right _ _) hu
  exact ⟨fun Q' E h => SeqAt.RcAt.lists (e := fun _ => true) (S.isList ha) (S.isList hb) (el_size hv hw2) hz hel _ _ E Q' (by rw [all_true]; exact h s S), fun Q' E h => SeqAt.RcNeAt.lists (e := fun _ => true) (S.isList ha) (S.isList hb) (el_size hv hw2) hz hel _ _ E Q' (by rw [all_true]; exact h s S)⟩
theorem s_tupSelf {l : List PV} (S : St σ L m Fs M X s) (hu : A.units + 16 < cLine) (hp : eqTop (.tup l) = true) (h1 : Rep σ r X (.tup l) v) (h2 : Rep σ r X (.tup l) w) : Both σ A L m Fs M X s .Eq .NotEq v w true := by
  refine rep_tup h1 fun a vs ha hv => ?_
  refine rep_tup h2 fun b ws hb hw2 => ?_
  have hl := el_size hv hw2
  have te := top_elems S (A := A.in1) (by show A.units + 1 + 8 < cLine; omega) hp hv hw2
  exact ⟨fun Q' E h => wpAny_richCompare_same_room (op := .Eq) (T := "tuple") ⟨_, S.getX ha, rfl⟩ ⟨_, S.getX hb, rfl⟩ PySem.F.slot_tuple_eq (call_meetsIn PySem.F.slot_tuple_eq ⟨_, S.getX ha, rfl⟩ PySem.F.entry_tuple_eq (PySem.F.args_tuple_eq_2 _ _) (tupEq a b vs.toArray ws.toArray hl) ⟨S.getX ha, S.getX hb, te, (fun x => nomatch x), h s S⟩) (by omega),
    fun Q' E h => wpAny_richCompare_same_room (op := .NotEq) (T := "tuple") ⟨_, S.getX ha, rfl⟩ ⟨_, S.getX hb, rfl⟩ PySem.F.slot_tuple_ne (call_meetsIn PySem.F.slot_tuple_ne ⟨_, S.getX ha, rfl⟩ PySem.F.entry_tuple_ne (PySem.F.args_tuple_ne_2 _ _) (tupNe a b vs.toArray ws.toArray hl) ⟨S.getX ha, S.getX hb, te, (fun x => nomatch x), h s S⟩) (by omega)⟩
theorem s_eqne (S : St σ L m Fs M X s) {Q : Bool → Prop} (hu : A.units + 16 < cLine) (h1 : Rep σ r X p v) (h2 : Rep σ r X q w) (hw : eqP p q Q) : ∃ b, Q b ∧ Both σ A L m Fs M X s .Eq .NotEq v w b := by
  unfold eqP at hw
  cases he : eqS p q with
  | some b => rw [he] at hw; exact ⟨b, hw, s_eqC S he h1 h2⟩
  | none =>
    rw [he] at hw; clear he
    cases p with
    | list l => cases q with
      | list l2 => cases l2 with
        | nil => exact ⟨_, hw, s_listNil S hu h1 h2⟩
        | cons y ys => exact ⟨true, hw.2.2, s_listSelf S hu hw.2.1 h1 (hw.1 ▸ h2)⟩
      | _ => exact nomatch hw.1
    | tup l => exact ⟨true, hw.2.2, s_tupSelf S hu hw.2.1 h1 (hw.1 ▸ h2)⟩
    | _ => exact False.elim hw

/-- in -/
noncomputable def eqV : PV → Value → Bool
  | .int b, .int a _ => a == b | .str b, .str a _ => a == b | .none, .none => true | _, _ => false
theorem eqV_of {y : Value} {c : Bool} (h : Rep σ r X p y) (he : eqS p q = some c) : eqV q y = c := by
  revert h
  exact eqS_cases he (fun a b h => rep_int h fun t => rfl) (fun a b h => rep_str h fun t => rfl) (fun h => by rw [rep_none h]; rfl) (fun a h => by rw [rep_none h]; rfl) (fun a h => by rw [rep_none h]; rfl) (fun a h => rep_int h fun t => rfl) (fun a h => rep_str h fun t => rfl)
theorem any_reps : ∀ {l : List PV} {vs : List Value}, Reps σ r X l vs → (∀ y ∈ l, (eqS y q).isSome) → vs.any (eqV q) = l.any fun y => eqS y q == some true
  | [], vs, h, _ => by rw [h.inv0]; rfl
  | p :: l, vs, h, hl => by
    refine h.inv fun v vs' h2 h3 => ?_
    obtain ⟨c, hc⟩ := Option.isSome_iff_exists.mp (hl p (.head _))
    rw [List.any_cons, List.any_cons, any_reps h3 fun y hy => hl y (.tail _ hy), eqV_of h2 hc, hc]
    cases c <;> rfl
theorem elems_at {B : Around} {l : List PV} {vs : List Value} (h : Reps σ r X l vs) (hl : ∀ y ∈ l, (eqS y q).isSome) (hq : Rep σ r X q w) : ∀ y, y ∈ vs.toArray → SeqAt.EqAt B s y w (eqV q y) := by
  intro y hy
  obtain ⟨i, hi⟩ := List.mem_iff_getElem?.mp (by simpa using hy : y ∈ vs)
  obtain ⟨p, hp, hr⟩ := h.get' hi
  obtain ⟨c, hc⟩ := Option.isSome_iff_exists.mp (hl p (List.mem_of_getElem? hp))
  rw [eqV_of hr hc]
  exact s_eqS hc hr hq
theorem mem_zip {α β : Type} [DecidableEq α] : ∀ (ks : List α) (vs : List β) (k : α), ks.length = vs.length → ((ks.zip vs).find? fun kv => decide (kv.1 = k)).isSome = decide (k ∈ ks)
  | [], _, k, _ => by simp
  | a :: ks, [], k, h => by cases h
  | a :: ks, b :: vs, k, h => by
    have ih := mem_zip ks vs k (by simpa using h)
    by_cases e : a = k
    · subst e; simp
    · have e' : ¬ k = a := fun q => e q.symm
      simp only [List.zip_cons_cons, List.find?_cons, e, decide_false, ih, List.mem_cons, e', false_or]
theorem valueAt_some {α : Type} [DecidableEq α] (ks : List α) (vs : List Value) (k : α) (h : ks.length = vs.length) : (valueAt (ks.zip vs) k).isSome = decide (k ∈ ks) := by
  unfold valueAt; rw [Option.isSome_map]; exact mem_zip ks vs k h
theorem lookP_get : ∀ (ks : List PySem.Str) (l : List PV) (vs : List Value) (k : PySem.Str), ks.length = vs.length → Reps σ r X l vs → (lookP ks l k = none ∧ valueAt (ks.zip vs) k = none) ∨ ∃ p v, lookP ks l k = some p ∧ valueAt (ks.zip vs) k = some v ∧ Rep σ r X p v
  | [], l, vs, k, _, _ => .inl ⟨rfl, rfl⟩
  | a :: ks, [], vs, k, h, hv => by rw [hv.inv0] at h; cases h
  | a :: ks, p :: l, vs, k, h, hv => by
    revert h; refine hv.inv fun v vs h1 h2 h => ?_
    have ih := lookP_get ks l vs k (by simpa using h) h2
    by_cases e : a = k
    · exact .inr ⟨p, v, if_pos e, by simp [valueAt, e], h1⟩
    · have x1 : lookP (a :: ks) (p :: l) k = lookP ks l k := if_neg e
      have x2 : valueAt ((a :: ks).zip (v :: vs)) k = valueAt (ks.zip vs) k := by simp [valueAt, e]
      rw [x1, x2]; exact ih
theorem s_inn (S : St σ L m Fs M X s) {Q : Bool → Prop} (h1 : Rep σ r X p v) (h2 : Rep σ r X q w) (hw : inP p q Q) : ∃ b, Q b ∧ Both σ A L m Fs M X s .In .NotIn v w b := by
  cases q with
  | list l =>
    refine ⟨_, hw.2, rep_list h2 fun a vs n ha hv => ?_⟩
    have e : vs.toArray.any (eqV p) = l.any fun y => eqS y p == some true := by rw [List.any_toArray, any_reps hv hw.1]
    exact ⟨fun Q' E h => SeqAt.in_listAt (eqV p) (S.isList ha) (elems_at hv hw.1 h1) (by rw [e]; exact h s S), fun Q' E h => SeqAt.notIn_listAt (eqV p) (S.isList ha) (elems_at hv hw.1 h1) (by rw [e]; exact h s S)⟩
  | tup l =>
    refine ⟨_, hw.2, rep_tup h2 fun a vs ha hv => ?_⟩
    have e : vs.toArray.any (eqV p) = l.any fun y => eqS y p == some true := by rw [List.any_toArray, any_reps hv hw.1]
    exact ⟨fun Q' E h => SeqAt.in_tupleAt (eqV p) (S.isTup ha) (elems_at hv hw.1 h1) (by rw [e]; exact h s S), fun Q' E h => SeqAt.notIn_tupleAt (eqV p) (S.isTup ha) (elems_at hv hw.1 h1) (by rw [e]; exact h s S)⟩
  | sd ks l => cases p with
    | str x =>
      refine ⟨_, hw, inv_sd h2 fun a o vs ha hm hl hd _ => rep_str h1 fun t => ?_⟩
      have e := valueAt_some ks vs x hl
      exact ⟨fun Q' E h => wpAny_in_of (strKind_is _ _ _ _) hm (S.dictX ha hd).mapOf (by rw [e]; exact h _ (S.toks _)), fun Q' E h => wpAny_notIn_of (strKind_is _ _ _ _) hm (S.dictX ha hd).mapOf (by rw [e]; exact h _ (S.toks _))⟩
    | _ => exact False.elim hw
  | idt ks => cases p with
    | int x =>
      refine ⟨_, hw, inv_idt h2 fun a o vs ha hm hl hd => rep_int h1 fun t => ?_⟩
      have e := valueAt_some ks vs x hl
      exact ⟨fun Q' E h => wpAny_in_of (intKind_is _ _ _ _) hm (S.dictX ha hd).mapOf (by rw [e]; exact h _ (S.toks _)), fun Q' E h => wpAny_notIn_of (intKind_is _ _ _ _) hm (S.dictX ha hd).mapOf (by rw [e]; exact h _ (S.toks _))⟩
    | _ => exact False.elim hw
  | _ => exact False.elim hw
theorem s_in (S : St σ L m Fs M X s) {Q : Bool → Prop} (h1 : Rep σ r X p v) (h2 : Rep σ r X q w) (hw : inP p q Q) (H : PostB σ L m Fs M X Q Q') : wpAny σ.M A (compareOp .In v w) Q' E s :=
  let ⟨b, hb, B⟩ := s_inn S h1 h2 hw; B.yes _ _ fun s' S' => H b s' S' hb
theorem s_notin (S : St σ L m Fs M X s) {Q : Bool → Prop} (h1 : Rep σ r X p v) (h2 : Rep σ r X q w) (hw : inP p q fun b => Q (!b)) (H : PostB σ L m Fs M X Q Q') : wpAny σ.M A (compareOp .NotIn v w) Q' E s :=
  let ⟨b, hb, B⟩ := s_inn S h1 h2 hw; B.not _ _ fun s' S' => H (!b) s' S' hb
theorem s_cmp {op : CmpOp} (S : St σ L m Fs M X s) {Q : Bool → Prop} (hu : A.units + 16 < cLine) (h1 : Rep σ r X p v) (h2 : Rep σ r X q w) (hw : cmpP op p q Q) (H : PostB σ L m Fs M X Q Q') : wpAny σ.M A (compareOp op v w) Q' E s := by
  cases op with
  | Eq => exact let ⟨b, hb, B⟩ := s_eqne S hu h1 h2 hw; B.yes _ _ fun s' S' => H b s' S' hb
  | NotEq => exact let ⟨b, hb, B⟩ := s_eqne S hu h1 h2 hw; B.not _ _ fun s' S' => H (!b) s' S' hb
  | Lt => revert h1 h2; refine intPair (p := p) (q := q) (F := fun a b => Q (decide (a < b))) hw fun a b hw h1 h2 => ?_; refine rep_int h1 fun t => ?_; refine rep_int h2 fun u => ?_; exact r_lt (H _ s S hw)
  | LtE => revert h1 h2; refine intPair (p := p) (q := q) (F := fun a b => Q (decide (a ≤ b))) hw fun a b hw h1 h2 => ?_; refine rep_int h1 fun t => ?_; refine rep_int h2 fun u => ?_; exact r_le (H _ s S hw)
  | Gt => revert h1 h2; refine intPair (p := p) (q := q) (F := fun a b => Q (decide (b < a))) hw fun a b hw h1 h2 => ?_; refine rep_int h1 fun t => ?_; refine rep_int h2 fun u => ?_; exact r_gt (H _ s S hw)
  | GtE => revert h1 h2; refine intPair (p := p) (q := q) (F := fun a b => Q (decide (b ≤ a))) hw fun a b hw h1 h2 => ?_; refine rep_int h1 fun t => ?_; refine rep_int h2 fun u => ?_; exact r_ge (H _ s S hw)
  | Is => cases q with
    | none => rw [rep_none h2]; exact r_is (by rw [rep_isN h1]; exact H _ s S hw)
    | _ => exact False.elim hw
  | IsNot => cases q with
    | none => rw [rep_none h2]; exact r_isNot (by rw [rep_isN h1]; exact H _ s S hw)
    | _ => exact False.elim hw
  | In => exact s_in S h1 h2 hw H
  | NotIn => exact s_notin S h1 h2 hw H
end
end Mine

end
section
open PySem PySem.W PySem.Calls PyProof.Rows PySem.Spec
set_option Elab.async false
set_option maxRecDepth 100000
set_option linter.unusedVariables false
namespace Mine
section
variable {σ : Sig} {r : Option Addr} {A : Around} {E : Value → Shared → Prop} {L : Addr} {m : Know} {Fs : List (Addr × Know)} {M : Mut} {X : Led} {s : Shared} {Q : PV → Prop} {Q' : Value → Shared → Prop} {v w : Value} {p q : PV}

theorem optSome {o : Option PV} {F : PV → Prop} (h : match o with | some p => F p | none => False) : ∃ p, o = some p ∧ F p := by
  cases o with
  | none => exact False.elim h
  | some p => exact ⟨p, rfl, h⟩
theorem s_idx {value slice : Expr} (hsl : ∀ a b c p, slice ≠ .Slice a b c p) (S : St σ L m Fs M X s) (h1 : Rep σ r X p v) (h2 : Rep σ r X q w) (hw : idxP p q Q) (H : Post σ r L m Fs M X Q Q') : wpAny σ.M A (subscriptTail value slice v w) Q' E s := by
  cases p with
  | list l => cases q with
    | int i =>
      refine rep_list h1 fun a vs n ha hv => ?_
      refine rep_int h2 fun t => ?_
      obtain ⟨y, he, hy⟩ := optSome hw.2.2
      obtain ⟨x, hx, hr⟩ := hv.get he
      exact r_item (S.isList ha) hw.1 hx (Int.lt_trans hw.2.1 (by decide)) (H _ _ _ X (Sub.refl X) S hr hy) (sub_plain hsl)
    | _ => exact False.elim hw
  | tup l => cases q with
    | int i =>
      refine rep_tup h1 fun a vs ha hv => ?_
      refine rep_int h2 fun t => ?_
      obtain ⟨y, he, hy⟩ := optSome hw.2.2
      obtain ⟨x, hx, hr⟩ := hv.get he
      exact r_itemT S (.inr ha) hw.1 (Int.lt_trans hw.2.1 (by decide)) hx (H _ _ _ X (Sub.refl X) S hr hy) (sub_plain hsl)
    | _ => exact False.elim hw
  | sd ks l => cases q with
    | str x =>
      refine inv_sd h1 fun a o vs ha hm hl hd hv => ?_
      refine rep_str h2 fun t => ?_
      obtain ⟨y, he, hy⟩ := optSome hw
      rcases lookP_get ks l vs x hl hv with ⟨e, _⟩ | ⟨p, v, e1, e2, e3⟩
      · rw [e] at he; cases he
      · rw [e1] at he; cases he
        have D := S.dictX ha hd
        refine tail_any (ops := [.ref a, .str x t]) D.typeIs PySem.F.slot_dict_getitem.lookup ?_ (sub_plain hsl)
        exact wpAny_getItem_of (knd := strK σ) (strKind_is _ _ _ _) D.mapOf e2 (H _ _ _ X (Sub.refl X) (S.toks _) e3 hy)
    | _ => exact False.elim hw
  | _ => exact False.elim hw
theorem s_get {C d a : Addr} {es : List DictEntry} {n : Nat} {f : PySem.Str} (hK : KOK σ.K) (hC : C ∈ [246, 196, 217]) (hf : f ∈ [Str.ofString "kind", Str.ofString "items", Str.ofString "attrs"])
    (S : St σ L m Fs M X s) (ha : s.heap.get? a = some (instObj C d)) (hd : s.heap.get? d = some (dictOf es n)) (hv : At es f v) (h : ∀ s', St σ L m Fs M X s' → Q' v s') : wpAny σ.M A (getAttr (.ref a) f true) Q' E s := by
  have hk := hK.attr C hC f hf
  exact get_value S.live ⟨ha, rfl, rfl, hd⟩ (plainGet_of hk.1).1 (findObj_own (od := dictOf es n) (hK.hasD C hC) hk.2 rfl hv.1) hv.2 (h _ (S.toks _))
theorem s_fld {f : Fld} (hK : KOK σ.K) (S : St σ L m Fs M X s) (h1 : Rep σ r X p v) (hw : fldP f p Q) (H : Post σ r L m Fs M X Q Q') : wpAny σ.M A (getAttr v f.name true) Q' E s := by
  have m0 : (246 : Addr) ∈ [246, 196, 217] := .head _
  have m1 : (196 : Addr) ∈ [246, 196, 217] := .tail _ (.head _)
  have m2 : (217 : Addr) ∈ [246, 196, 217] := .tail _ (.tail _ (.head _))
  have f0 : Str.ofString "kind" ∈ [Str.ofString "kind", Str.ofString "items", Str.ofString "attrs"] := .head _
  have f1 : Str.ofString "items" ∈ [Str.ofString "kind", Str.ofString "items", Str.ofString "attrs"] := .tail _ (.head _)
  have f2 : Str.ofString "attrs" ∈ [Str.ofString "kind", Str.ofString "items", Str.ofString "attrs"] := .tail _ (.tail _ (.head _))
  cases p with
  | vec k it at' =>
    refine inv_vec h1 fun a d es n t vi va h2 h3 h4 h5 h6 h8 h9 => ?_
    cases f with
    | kind => exact s_get hK m0 f0 S (S.getX h2) (S.getX h3) h4 fun s' S' => H _ _ _ X (Sub.refl X) S' repS hw
    | items => exact s_get hK m0 f1 S (S.getX h2) (S.getX h3) h5 fun s' S' => H _ _ _ X (Sub.refl X) S' h8 hw
    | attrs => exact s_get hK m0 f2 S (S.getX h2) (S.getX h3) h6 fun s' S' => H _ _ _ X (Sub.refl X) S' h9 hw
  | null =>
    refine inv_nul h1 fun a d es n t h2 h3 h4 h5 => ?_
    cases f with
    | kind => exact s_get hK m1 f0 S (S.getX h2) (S.getX h3) h4 fun s' S' => H _ _ _ X (Sub.refl X) S' repS hw
    | items => exact False.elim hw
    | attrs => exact s_get hK m1 f2 S (S.getX h2) (S.getX h3) h5 fun s' S' => H _ _ _ X (Sub.refl X) S' repN hw
  | missing =>
    refine inv_mis h1 fun a d es n t h2 h3 h4 h5 => ?_
    cases f with
    | kind => exact s_get hK m2 f0 S (S.getX h2) (S.getX h3) h4 fun s' S' => H _ _ _ X (Sub.refl X) S' repS hw
    | items => exact False.elim hw
    | attrs => exact s_get hK m2 f2 S (S.getX h2) (S.getX h3) h5 fun s' S' => H _ _ _ X (Sub.refl X) S' repN hw
  | _ => cases f <;> exact False.elim hw
theorem s_getm (S : St σ L m Fs M X s) (h1 : Rep σ r X p v) (h2 : Rep σ r X q w) (hw : getmP p q Q) (H : Post σ r L m Fs M X Q Q') : wpAny σ.M A (call (.builtin "dict.get") [v, w]) Q' E s := by
  cases p with
  | sd ks l => cases q with
    | str x =>
      refine inv_sd h1 fun a o vs ha hm hl hd hv => ?_
      refine rep_str h2 fun t => ?_
      have D := S.dictX ha hd
      refine call_meetsIn PySem.F.slot_dict_get D.typeIs PySem.F.entry_dict_get (PySem.F.args_dict_get_2 _ _) (meets_dict_get (strK σ) a (strKind_is _ _ _ _) hm) ⟨_, D.mapOf, ?_⟩
      have hw : Q ((lookP ks l x).getD .none) := hw
      rcases lookP_get ks l vs x hl hv with ⟨e1, e2⟩ | ⟨p, v, e1, e2, e3⟩
      · rw [e1] at hw; rw [e2]; exact H _ _ _ X (Sub.refl X) (S.toks _) repN hw
      · rw [e1] at hw; rw [e2]; exact H _ _ _ X (Sub.refl X) (S.toks _) e3 hw
    | _ => exact False.elim hw
  | _ => exact False.elim hw
theorem s_lidx (S : St σ L m Fs M X s) (h1 : Rep σ r X p v) (h2 : Rep σ r X q w) (hw : lidxP p q Q) (H : Post σ r L m Fs M X Q Q') : wpAny σ.M A (call (.builtin "list.index") [v, w]) Q' E s := by
  cases p with
  | list l =>
    refine rep_list h1 fun a vs n ha hv => ?_
    obtain ⟨hl, hz, hw⟩ := hw
    cases hi : l.findIdx? fun y => eqS y q == some true with
    | none => rw [hi] at hw; exact False.elim hw
    | some i =>
      rw [hi] at hw
      obtain ⟨hlt, hit, hno⟩ := List.findIdx?_eq_some_iff_getElem.mp hi
      have hlt' : i < vs.length := hv.length ▸ hlt
      have at' : ∀ j (h : j < vs.length), ∃ hj : j < l.length, ∀ c, eqS l[j] q = some c → eqV q vs[j] = c := fun j h => by
        obtain ⟨p, hp, hr⟩ := hv.get' (i := j) (v := vs[j]) (by simp)
        have hj := (List.getElem?_eq_some_iff.mp hp).1
        refine ⟨hj, fun c hc => eqV_of hr ?_⟩
        rw [← hc]
        have := (List.getElem?_eq_some_iff.mp hp).2
        rw [this]
      have hz' : (i : Int) < 2 ^ 63 - 1 := by have := hlt; omega
      have h1 : eqV q vs[i] = true := (at' i hlt').2 true (by simpa using hit)
      have h2' : ∀ m (hm : m < vs.length), m < i → eqV q vs[m] = false := fun m hm hmi => by
        obtain ⟨hj, hc⟩ := at' m hm
        have := hno m hmi
        obtain ⟨c, hc'⟩ := Option.isSome_iff_exists.mp (hl l[m] (List.getElem_mem hj))
        rw [hc c hc']
        rw [hc'] at this
        cases c
        · rfl
        · exact absurd rfl this
      refine call_meets PySem.F.slot_list_index ⟨_, S.getX ha, rfl⟩ PySem.F.entry_list_index (PySem.F.args_list_index_2 _ _)
        (SeqAt.list_indexAt a vs.toArray n none #[] w (eqV q) i (by simpa using hlt') hz' (by simpa using h1) (fun m hm hmi => by simpa using h2' m (by simpa using hm) hmi)) ⟨S.getX ha, elems_at hv hl h2, H _ _ _ X (Sub.refl X) (S.toks _) repI hw⟩
  | _ => exact False.elim hw
theorem ints_all {ns : List Int} {vs : List Value} (h : Reps σ r X (ns.map PV.int) vs) : IntsAre vs ns := by
  induction ns generalizing vs with
  | nil => rw [h.inv0]; exact .nil
  | cons a ns ih =>
    refine h.inv fun v vs' h1 h2 => ?_
    refine rep_int h1 fun t => ?_
    exact .cons a t (ih h2)
end
end Mine

end
section
open PySem PySem.W PySem.Calls PyProof.Rows PySem.Spec
set_option Elab.async false
set_option maxRecDepth 100000
set_option linter.unusedVariables false
namespace Mine
noncomputable def BiN.isFn : BiN → Bool
  | .len | .abs | .chr | .max | .isinstance => true | _ => false
structure GOK (σ : Sig) (cx : Cx) : Prop where
  fn : ∀ x f, cx.G x = .fn f → nsIn σ.K mainGlobals x = some (some (.ref f)) ∧ keepIn σ.K (.ref f) = true
  bi : ∀ x b, cx.G x = .bi b → nsIn σ.K mainGlobals x = some none ∧ bootBuiltins x = some b.val
  wf : ∀ x i, cx.ix.lookup x = some i → i < cx.d
section
variable {σ : Sig} {r : Option Addr} {A : Around} {E : Value → Shared → Prop} {L : Addr} {m : Know} {Fs : List (Addr × Know)} {M : Mut} {X : Led} {s : Shared} {Q : PV → Prop} {Q' : Value → Shared → Prop} {v w : Value} {p q : PV}

/-- a list just made is frozen -/
theorem s_newList {l : List PV} {vs : List Value} (S : St σ L m Fs M X s) (h : Reps σ r X l vs) (hz : vs.length ≤ sizeLine) (hw : Q (.list l)) (H : Post σ r L m Fs M X Q Q') : wpAny σ.M A (newList vs) Q' E s :=
  r_newList S (fun a s' S' => by
    obtain ⟨o, ⟨n, rfl⟩, S2⟩ := S'.freeze
    exact H _ _ _ _ (Sub.cons X _) S2 (repL (.head _) (h.mono (Sub.cons X _))) hw) hz
theorem s_newTuple {l : List PV} {vs : List Value} (S : St σ L m Fs M X s) (h : Reps σ r X l vs) (hz : vs.length ≤ sizeLine) (hw : Q (.tup l)) (H : Post σ r L m Fs M X Q Q') : wpAny σ.M A (newTuple vs) Q' E s :=
  r_newTuple S (fun a s' S' => H _ _ _ _ (Sub.cons X _) S' (repT (.head _) (h.mono (Sub.cons X _))) hw) hz

theorem St.heap (S : St σ L m Fs M X s) {h' : Heap} {tk : Nat} (hk : ∀ b o, s.heap.get? b = some o → h'.get? b = some o) : St σ L m Fs M X { s with heap := h', toks := tk } := S.grow hk
/-- a new list, laid by a rule of the library -/
theorem St.newL (S : St σ L m Fs M X s) {h' : Heap} {tk : Nat} {ys : List Value} {n : Nat} (hk : ∀ b o, s.heap.get? b = some o → h'.get? b = some o) (ha : h'.get? s.heap.objs.size = some (lst ys n)) :
    St σ L m Fs M ((s.heap.objs.size, lst ys n) :: X) { s with heap := h', toks := tk } := (S.heap hk).addX ha S.fresh
theorem reps_rng : ∀ {n : Nat} {ys : List Value}, ys.length = n → (∀ (j : Nat) v, ys[j]? = some v → ∃ t, v = .int (0 + (j : Int) * 1) t) → Reps σ r X ((List.range n).map fun (i : Nat) => PV.int (i : Int)) ys
  | 0, ys, hl, _ => by rw [List.length_eq_zero_iff.mp hl]; exact .nil
  | n + 1, ys, hl, h => by
    have hne : ys ≠ [] := fun e => by rw [e] at hl; cases hl
    have he := List.dropLast_concat_getLast hne
    have hl' : ys.dropLast.length = n := by simp [hl]
    rw [← he, List.range_succ, List.map_append]
    refine (reps_rng hl' fun j v hj => h j v ?_).append (.cons ?_ .nil)
    · rw [← he, List.getElem?_append_left (List.getElem?_eq_some_iff.mp hj).1]; exact hj
    · obtain ⟨t, ht⟩ := h n (ys.getLast hne) (by rw [List.getLast_eq_getElem, List.getElem?_eq_getElem (by omega)]; congr 2; omega)
      rw [ht]
      have e : (0 + (n : Int) * 1) = (n : Int) := by omega
      rw [e]; exact repI
theorem rng_size {n : Int} (h0 : 0 ≤ n) : Builtin.Range.rangeSize 0 n 1 = (n.toNat : Int) := by
  unfold Builtin.Range.rangeSize
  simp only [Int.one_pos, if_true]
  split
  · simp; omega
  · simp; omega
theorem rng_small {n : Int} (h0 : 0 ≤ n) (hz : n < 2 ^ 40) : Builtin.Range.small 0 n 1 = true := by
  unfold Builtin.Range.small
  simp only [rng_size h0, Builtin.Range.rangeFitsLong, Int.one_pos, if_true, Bool.and_eq_true, Bool.or_eq_true, decide_eq_true_eq]
  omega
theorem s_len (S : St σ L m Fs M X s) (h1 : Rep σ r X p v) (hw : biP .len p Q) (H : Post σ r L m Fs M X Q Q') : wpAny σ.M A (call (.builtin "len") [v]) Q' E s := by
  cases p <;> first | exact False.elim hw | skip
  · rename_i l
    refine rep_list h1 fun a vs n ha hv => ?_
    have hl := hv.length
    have hz := hw.1
    refine r_len S (S.isList ha) (by omega) fun t s' S' => ?_
    rw [← hl]
    exact H _ _ _ X (Sub.refl X) S' repI hw.2
  · rename_i ks l
    refine inv_sd h1 fun a o vs ha hm hl hd hv => ?_
    have hz : (ks.zip vs).length = ks.length := by simp [hl]
    refine call_len_dict hm (S.dictX ha hd) (by have := hw.1; rw [hz]; omega) ?_
    rw [hz]
    exact H _ _ _ X (Sub.refl X) (S.toks _) repI hw.2
  · rename_i ks
    refine inv_idt h1 fun a o vs ha hm hl hd => ?_
    have hz : (ks.zip vs).length = ks.length := by simp [hl]
    refine call_len_dict hm (S.dictX ha hd) (by have := hw.1; rw [hz]; omega) ?_
    rw [hz]
    exact H _ _ _ X (Sub.refl X) (S.toks _) repI hw.2
theorem s_abs (S : St σ L m Fs M X s) (h1 : Rep σ r X p v) (hw : biP .abs p Q) (H : Post σ r L m Fs M X Q Q') : wpAny σ.M A (call (.builtin "abs") [v]) Q' E s := by
  cases p <;> first | exact False.elim hw | skip
  refine rep_int h1 fun t => ?_
  exact r_abs S fun t s' S' => H _ _ _ X (Sub.refl X) S' repI hw
theorem s_chr (S : St σ L m Fs M X s) (h1 : Rep σ r X p v) (hw : biP .chr p Q) (H : Post σ r L m Fs M X Q Q') : wpAny σ.M A (call (.builtin "chr") [v]) Q' E s := by
  cases p <;> first | exact False.elim hw | skip
  refine rep_int h1 fun t => ?_
  exact r_chr S hw.1 hw.2.1 fun t s' S' => H _ _ _ X (Sub.refl X) S' repS hw.2.2
theorem s_list (S : St σ L m Fs M X s) (hh : A.handled = none) (h1 : Rep σ r X p v) (hw : biP .list p Q) (H : Post σ r L m Fs M X Q Q') : wpAny σ.M A (call (.type "list") [v]) Q' E s := by
  have hsl : sizeLine = 16777216 := sizeLine_eq
  cases p <;> first | exact False.elim hw | skip
  · rename_i l
    refine rep_list h1 fun a vs n ha hv => ?_
    have hl := hv.length
    have hz := hw.1
    refine call_list_seq a (.inl rfl) (S.getX ha) rfl rfl (fun h' c' hk hD => ?_) (by simp; omega)
    have S' := St.newL S (tk := s.toks) hk hD
    exact H _ _ _ _ (Sub.cons X _) S' (repL (.head _) (hv.mono (Sub.cons X _))) hw.2
  · rename_i n
    refine rep_rng h1 fun a t u w ha => ?_
    have h0 := hw.1; have hz := hw.2.1
    refine call_list_range hh (n := n.toNat) (S.getX ha) (rng_small hw.1 (by omega)) (rng_size hw.1) (by omega) fun h' tk acc c' hk hD hi => ?_
    have S' := St.newL S (tk := tk) (ys := acc.toList) hk hD
    refine H _ _ _ _ (Sub.cons X _) S' (repL (.head _) ?_) hw.2.2
    exact reps_rng (by simpa using hi.1) fun j v hj => hi.2 j v (by simpa using hj)
theorem s_range (S : St σ L m Fs M X s) (h1 : Rep σ r X p v) (hw : biP .range p Q) (H : Post σ r L m Fs M X Q Q') : wpAny σ.M A (call (.type "range") [v]) Q' E s := by
  cases p <;> first | exact False.elim hw | skip
  refine rep_int h1 fun t => ?_
  refine r_range1 S fun a u w s' X' hX S' => ?_
  subst hX
  exact H _ _ _ _ (Sub.cons X _) S' (repR (.head _)) hw
theorem s_max (S : St σ L m Fs M X s) (hh : A.handled = none) (h1 : Rep σ r X p v) (hw : biP .max p Q) (H : Post σ r L m Fs M X Q Q') : wpAny σ.M A (call (.builtin "max") [v]) Q' E s := by
  cases p <;> first | exact False.elim hw | skip
  obtain ⟨ns, rfl, hne, hw⟩ := hw
  refine rep_list h1 fun a vs n ha hv => ?_
  have hi := ints_all hv
  obtain ⟨xs, hxs⟩ := hi.allInts.items
  have hnums : numsOf (intItems xs).toList = ns := by rw [← hxs]; exact hi.numsOf
  rw [nums_intItems] at hnums
  have hsz : 0 < xs.size := by
    have : xs.size = ns.length := by rw [← hnums]; simp
    rw [this]; exact List.length_pos_iff.mpr hne
  refine max_intList hh (by rw [← hxs]; exact S.isList ha) hsz fun v h' tk hv hk => ?_
  obtain ⟨t, rfl⟩ := intItems_at hv
  obtain ⟨h1, h2⟩ := argBest_gt (numAt xs) (xs.size - 1)
  refine H _ _ _ X (Sub.refl X) (St.heap S hk) repI (hw _ ?_ fun b hb => ?_)
  · rw [← hnums, numAt_eq]; exact getD_mem (by rw [List.length_map, Array.length_toList]; omega)
  · rw [← hnums] at hb
    obtain ⟨j, hj, rfl⟩ := mem_getD hb
    rw [List.length_map, Array.length_toList] at hj
    rw [← numAt_eq]; exact h2 j (by omega)
theorem s_max2 (S : St σ L m Fs M X s) (hh : A.handled = none) (h1 : Rep σ r X p v) (h2 : Rep σ r X q w) (hw : max2P p q Q) (H : Post σ r L m Fs M X Q Q') : wpAny σ.M A (call (.builtin "max") [v, w]) Q' E s := by
  cases p <;> first | exact False.elim hw | (cases q <;> first | exact False.elim hw | skip)
  · rename_i a b
    have hw : Q (.int (if a < b then b else a)) := hw
    refine rep_int h1 fun t => ?_; refine rep_int h2 fun u => ?_
    refine max_two_ints hh fun h' tk hk => ?_
    by_cases hc : a < b
    · rw [if_pos (show b > a from hc)]; rw [if_pos hc] at hw; exact H _ _ _ X (Sub.refl X) (St.heap S hk) repI hw
    · rw [if_neg (show ¬ b > a from hc)]; rw [if_neg hc] at hw; exact H _ _ _ X (Sub.refl X) (St.heap S hk) repI hw
theorem s_isVec (hK : KOK σ.K) (S : St σ L m Fs M X s) (h1 : Rep σ r X p v) (hw : biP .isVec p Q) (H : Post σ r L m Fs M X Q Q') : wpAny σ.M A (call (.builtin "isinstance") [v, .ref 246]) Q' E s := by
  cases p <;> first | exact False.elim hw | skip
  refine inv_vec h1 fun a d es n t vi va h2 h3 _ _ _ _ _ => ?_
  refine isi_call S.live (fun M => InstAt.type (od := some (dictOf es n)) ⟨S.getX h2, rfl, rfl, S.getX h3⟩) hK.isv (fun q => by cases q) (H _ _ _ X (Sub.refl X) S repB hw)
theorem s_isStr (hK : KOK σ.K) (S : St σ L m Fs M X s) (h1 : Rep σ r X p v) (hw : biP .isStr p Q) (H : Post σ r L m Fs M X Q Q') : wpAny σ.M A (call (.builtin "isinstance") [v, .type "str"]) Q' E s := by
  cases p <;> first | exact False.elim hw | skip
  · refine rep_str h1 fun t => ?_
    exact IsiPair.str_str (H _ _ _ X (Sub.refl X) S repB hw)
  · refine rep_tup h1 fun a vs ha hv => ?_
    exact IsiPair.tuple_str (S.getX ha) rfl (H _ _ _ X (Sub.refl X) (S.toks _) repB hw)
  · refine inv_vec h1 fun a d es n t vi va h2 h3 _ _ _ _ _ => ?_
    obtain ⟨k1, k2, k3, k4⟩ := hK.nst 246 (by simp)
    exact kin_callT (od := dictOf es n) S.live ⟨S.getX h2, rfl, rfl, S.getX h3⟩ k1 F.isi_meta_str k2 (hK.hasD 246 (by simp)) k3 hK.spc hK.tks k4 (H _ _ _ X (Sub.refl X) (S.toks _) repB hw)
  · refine inv_nul h1 fun a d es n t h2 h3 _ _ => ?_
    obtain ⟨k1, k2, k3, k4⟩ := hK.nst 196 (by simp)
    exact kin_callT (od := dictOf es n) S.live ⟨S.getX h2, rfl, rfl, S.getX h3⟩ k1 F.isi_meta_str k2 (hK.hasD 196 (by simp)) k3 hK.spc hK.tks k4 (H _ _ _ X (Sub.refl X) (S.toks _) repB hw)
end
end Mine

end
section
open PySem PySem.W PySem.Calls PyProof.Rows PySem.Spec
set_option Elab.async false
set_option maxRecDepth 100000
set_option linter.unusedVariables false
namespace Mine

noncomputable abbrev PostE (σ : Sig) (r : Option Addr) (cx : Cx) (cs : List (PySem.Str × Addr)) (ρ : List Bd) (L : Addr) (m : Know) (Fs : List (Addr × Know)) (M : Mut) (X : Led) (Q : PV → Prop) (Q' : Value → Shared → Prop) : Prop :=
  ∀ v p s' X', Sub X X' → Rel σ r cx cs ρ L m Fs M X' s' → Rep σ r X' p v → Q p → Q' v s'
noncomputable abbrev PostX (σ : Sig) (L : Addr) (m : Know) (Fs : List (Addr × Know)) (M : Mut) (X : Led) (R : PySem.Str → Prop) (E : Value → Shared → Prop) : Prop :=
  ∀ v msg s' X', Sub X X' → Raised σ L m Fs M X' s' v msg → R msg → E v s'
noncomputable def EvOK (σ : Sig) (n : Nat) : Prop := ∀ {r : Option Addr} {cx : Cx} {cs : List (PySem.Str × Addr)} {k : Nat} {ρ : List Bd} {L : Addr} {m : Know} {Fs : List (Addr × Know)} {M : Mut} {X : Led} {s : Shared} {env : Env} {A : Around} {E : Value → Shared → Prop} {e : Expr}
  {Q : PV → Prop} {R : PySem.Str → Prop} {Q' : Value → Shared → Prop}, GOK σ cx → EnvIs env L cx.ns cs → Rm A k (L :: Fs.map (·.1)) → Rel σ r cx cs ρ L m Fs M X s →
  wpE (Ct σ) k ρ (compE n cx e) Q R → PostE σ r cx cs ρ L m Fs M X Q Q' → PostX σ L m Fs M X R E → wpAny σ.M A (eval e env) Q' E s
noncomputable def TvOK (σ : Sig) (n : Nat) : Prop := ∀ {r : Option Addr} {cx : Cx} {cs : List (PySem.Str × Addr)} {k : Nat} {ρ : List Bd} {L : Addr} {m : Know} {Fs : List (Addr × Know)} {M : Mut} {X : Led} {s : Shared} {env : Env} {A : Around} {E : Value → Shared → Prop} {e : Expr}
  {Q : Bool → Prop} {R : PySem.Str → Prop} {Q' : Bool → Shared → Prop}, GOK σ cx → EnvIs env L cx.ns cs → Rm A k (L :: Fs.map (·.1)) → Rel σ r cx cs ρ L m Fs M X s →
  wpT (Ct σ) k ρ (compE n cx e) Q R → (∀ b s' X', Sub X X' → Rel σ r cx cs ρ L m Fs M X' s' → Q b → Q' b s') → PostX σ L m Fs M X R E → wpAny σ.M A (isTrue e env (eval e env)) Q' E s

theorem isVar_mem {cx : Cx} {x : PySem.Str} {i : Nat} (h : isVar cx x = some i) : ((x, NameKind.local) ∈ cx.ns ∨ (x, NameKind.cell) ∈ cx.ns ∨ (x, NameKind.free) ∈ cx.ns) ∧ cx.ix.lookup x = some i := by
  unfold isVar at h
  split at h
  · rename_i e; exact ⟨.inl (mem_of_lookup e), h⟩
  · rename_i e; exact ⟨.inr (.inl (mem_of_lookup e)), h⟩
  · rename_i e; exact ⟨.inr (.inr (mem_of_lookup e)), h⟩
  · cases h
theorem glo_fn {cx : Cx} {x : PySem.Str} {f : Addr} (h : glo cx x = .fn f) : (x, NameKind.globalImplicit) ∈ cx.ns ∧ cx.G x = .fn f := by
  unfold glo at h
  split at h
  · rename_i e; exact ⟨mem_of_lookup (by simpa using e), h⟩
  · cases h
theorem glo_bi {cx : Cx} {x : PySem.Str} {f : BiN} (h : glo cx x = .bi f) : (x, NameKind.globalImplicit) ∈ cx.ns ∧ cx.G x = .bi f := by
  unfold glo at h
  split at h
  · rename_i e; exact ⟨mem_of_lookup (by simpa using e), h⟩
  · cases h

section
variable {σ : Sig} {r : Option Addr} {cx : Cx} {cs : List (PySem.Str × Addr)} {k : Nat} {ρ : List Bd} {A : Around} {E : Value → Shared → Prop} {L : Addr} {m : Know} {Fs : List (Addr × Know)} {M : Mut} {X X1 : Led} {s : Shared} {env : Env} {Q' : Value → Shared → Prop} {n : Nat} {R : PySem.Str → Prop}

theorem s_name {x : PySem.Str} {pos : Pos} {v : Value} (V : EnvIs env L cx.ns cs) (S : St σ L m Fs M X s) (h : Holds cx.ns cs m M x v) (hq : Q' v s) : wpAny σ.M A (eval (.Name x pos) env) Q' E s := by
  rcases h with ⟨h1, h2⟩ | ⟨h1, c, h2, h3⟩
  · exact r_local S V h1 h2 hq
  · rcases h1 with h1 | h1
    · exact r_cell S V h1 (.inl rfl) h2 h3 hq
    · exact r_cell S V h1 (.inr rfl) h2 h3 hq
theorem s_var {x : PySem.Str} {pos : Pos} {i : Nat} {p : PV} (V : EnvIs env L cx.ns cs) (S : Rel σ r cx cs ρ L m Fs M X s) (hi : isVar cx x = some i) (hp : ρ[i]? = some (.v p)) (h : ∀ v, Rep σ r X p v → Q' v s) : wpAny σ.M A (eval (.Name x pos) env) Q' E s := by
  obtain ⟨v, h1, h2⟩ := S.val x i _ hi hp (by simp)
  exact s_name V S.st h1 (h v h2)
theorem noStar_cons {e : Expr} {es : List Expr} (h : noStar (e :: es) = true) : (∀ env, starEach (e :: es) env = (false, eval e env) :: starEach es env) ∧ noStar es = true := by
  have h := (Bool.and_eq_true _ (noStar es)).mp h
  refine ⟨fun env => ?_, h.2⟩
  cases e with
  | Starred a p => exact fT h.1
  | _ => rfl
theorem noStar_any {es : List Expr} (h : noStar es = true) (pos : Pos) (env : Env) : (backTo pos (starEach es env)).any (·.1) = false := by
  induction es with
  | nil => rfl
  | cons e es ih =>
    obtain ⟨h1, h2⟩ := noStar_cons h
    rw [h1 env]
    have := ih h2
    unfold backTo at this ⊢
    rw [List.map_cons, List.any_cons]
    simpa using this
theorem PostX.mono {E : Value → Shared → Prop} (H : PostX σ L m Fs M X R E) (hs : Sub X X1) : PostX σ L m Fs M X1 R E := fun v msg s' X' h hr hm => H v msg s' X' (hs.trans h) hr hm
theorem evs_ok (ih : EvOK σ n) (hG : GOK σ cx) (V : EnvIs env L cx.ns cs) (hR : Rm A k (L :: Fs.map (·.1))) {pos : Pos} : ∀ {es : List Expr} {X : Led} {s : Shared} {Q : List PV → Prop} {Q' : List Value → Shared → Prop}, noStar es = true → Rel σ r cx cs ρ L m Fs M X s →
    wpEs (Ct σ) k ρ (es.map (compE n cx)) Q R → (∀ vs ps s' X', Sub X X' → Rel σ r cx cs ρ L m Fs M X' s' → Reps σ r X' ps vs → Q ps → Q' vs s') → PostX σ L m Fs M X R E → wpAny σ.M A (spliced (backTo pos (starEach es env))) Q' E s
  | [], X, s, Q, Q', _, S, hw, H, HX => by
    exact r_spl0 (H _ _ _ X (Sub.refl X) S .nil hw)
  | e :: es, X, s, Q, Q', hs, S, hw, H, HX => by
    have hw : wpE (Ct σ) k ρ (compE n cx e) (fun p => wpEs (Ct σ) k ρ (es.map (compE n cx)) (fun ps => Q (p :: ps)) R) R := hw
    obtain ⟨h1, h2⟩ := noStar_cons hs
    refine r_items (ih hG V hR S hw (fun v p s1 X1 hX1 S1 hv h1 => ?_) HX) (h1 env)
    exact evs_ok ih hG V hR h2 S1 h1 (fun vs ps s2 X2 hX2 S2 hvs h3 => H _ _ _ X2 (hX1.trans hX2) S2 (.cons (Rep.mono hX2 _ _ hv) hvs) h3) (HX.mono hX1)
theorem Rel.room (S : Rel σ r cx cs ρ L m Fs M X s) (hR : Rm A k (L :: Fs.map (·.1))) : A.units + 16 < cLine := by have := hR.un; omega
theorem s_call {f : Addr} {x : PySem.Str} {np pos : Pos} {es : List Expr} {Q : PV → Prop} (ih : EvOK σ n) (hG : GOK σ cx) (V : EnvIs env L cx.ns cs) (hR : Rm A k (L :: Fs.map (·.1))) (hg : glo cx x = .fn f) (hs : noStar es = true) (S : Rel σ r cx cs ρ L m Fs M X s)
    (hw : wpEs (Ct σ) k ρ (es.map (compE n cx)) (fun ps => Ct σ k f ps Q R) R) (H : PostE σ r cx cs ρ L m Fs M X Q Q') (HX : PostX σ L m Fs M X R E) : wpAny σ.M A (eval (.Call (.Name x np) es [] pos) env) Q' E s := by
  obtain ⟨h1, h2⟩ := glo_fn hg
  obtain ⟨h3, h4⟩ := hG.fn _ _ h2
  refine r_callD S.st V h1 h3 h4 (evs_ok ih hG V hR hs S hw (fun vs ps s1 X1 hX1 S1 hvs hc => ⟨S1.st.live, ?_⟩) HX) (noStar_any hs _ _)
  exact hc r A E L m Fs M X1 s1 vs Q' S1.st S1.row hR hvs (fun v p s2 X2 hX2 S2 hv hq => H _ _ _ X2 (hX1.trans hX2) (S1.grow hX2 S2) hv hq) fun v msg s2 X2 hX2 hr hm => HX _ _ _ X2 (hX1.trans hX2) hr hm
end
end Mine

end
section
open PySem PySem.W PySem.Calls PyProof.Rows PySem.Spec
set_option Elab.async false
set_option maxRecDepth 100000
set_option linter.unusedVariables false
namespace Mine
/-- comprehensions, the kept call -/
structure More (σ : Sig) (n : Nat) : Prop where
  lc : ∀ {r : Option Addr} {cx : Cx} {cs : List (PySem.Str × Addr)} {k : Nat} {ρ : List Bd} {L : Addr} {m : Know} {Fs : List (Addr × Know)} {M : Mut} {X : Led} {s : Shared} {env : Env} {A : Around} {E : Value → Shared → Prop}
    {Q : PV → Prop} {R : PySem.Str → Prop} {Q' : Value → Shared → Prop} {elt it : Expr} {x : PySem.Str} {px pos : Pos} {ifs : List Expr} {sc : Scope}, GOK σ cx → EnvIs env L cx.ns cs → Rm A k (L :: Fs.map (·.1)) → Rel σ r cx cs ρ L m Fs M X s → compOk cx x sc = true → ifs.length ≤ 1 →
    wpE (Ct σ) k ρ (.lc cx.d (compE n (inComp cx x sc) elt) (compE n cx it) (ifs.head?.map (compE n (inComp cx x sc)))) Q R → PostE σ r cx cs ρ L m Fs M X Q Q' → PostX σ L m Fs M X R E → wpAny σ.M A (eval (.ListComp elt [⟨.Name x px, it, ifs, 0⟩] sc pos) env) Q' E s
  dc : ∀ {r : Option Addr} {cx : Cx} {cs : List (PySem.Str × Addr)} {k : Nat} {ρ : List Bd} {L : Addr} {m : Know} {Fs : List (Addr × Know)} {M : Mut} {X : Led} {s : Shared} {env : Env} {A : Around} {E : Value → Shared → Prop}
    {Q : PV → Prop} {R : PySem.Str → Prop} {Q' : Value → Shared → Prop} {key val it : Expr} {x : PySem.Str} {px pos : Pos} {sc : Scope}, GOK σ cx → EnvIs env L cx.ns cs → Rm A k (L :: Fs.map (·.1)) → Rel σ r cx cs ρ L m Fs M X s → compOk cx x sc = true →
    wpE (Ct σ) k ρ (.dc cx.d (compE n (inComp cx x sc) key) (compE n (inComp cx x sc) val) (compE n cx it)) Q R → PostE σ r cx cs ρ L m Fs M X Q Q' → PostX σ L m Fs M X R E → wpAny σ.M A (eval (.DictComp key val [⟨.Name x px, it, [], 0⟩] sc pos) env) Q' E s
theorem base_plain {o : Expr} {attr : PySem.Str} {env : Env} (h : ∀ f ks p, o ≠ .Call f [] ks p) : attributeBase o attr env (eval o env) = eval o env := by
  unfold attributeBase
  split
  · rename_i id p1 p2
    exact absurd rfl (h _ _ _)
  · rfl
theorem attr_plain {o : Expr} {attr : PySem.Str} {pos : Pos} {env : Env} (h : ∀ f ks p, o ≠ .Call f [] ks p) : eval (.Attribute o attr pos) env = (do
          let v ← eval o env
          standAt pos.atName
          let r ← holding [v] (getAttr v attr true)
          letTemporaryGo o v r
          pure r) := by
  rw [arm_eval_Attribute, base_plain h]
theorem star1 {b : Expr} (h : noStar [b] = true) (pos : Pos) (env : Env) : backTo pos (starEach [b] env) = [(false, eval b env)] := by
  rw [(noStar_cons h).1 env]; rfl

theorem empty_app (a : PySem.Str) : Str.empty ++ a = a := by
  cases a with | mk c => show (⟨#[] ++ c⟩ : PySem.Str) = ⟨c⟩; simp
theorem d_empty {prog : Program} {w : World} {K : Type} [DecidableEq K] {knd : KeyKind prog w K} : ({ cls := .type "dict", data := .dict #[] } : Obj).IsDictOf knd [] := ⟨#[], 0, ⟨rfl, rfl, rfl⟩, rfl, fun e he => by simp at he, .nil, .nil⟩
section
variable {σ : Sig} {r : Option Addr} {cx : Cx} {cs : List (PySem.Str × Addr)} {k : Nat} {ρ : List Bd} {A : Around} {E : Value → Shared → Prop} {L : Addr} {m : Know} {Fs : List (Addr × Know)} {M : Mut} {X : Led} {s : Shared} {env : Env} {Q : PV → Prop} {Q' : Value → Shared → Prop} {n : Nat} {R : PySem.Str → Prop}
theorem Rel.addM {a : Addr} {P : Obj → Prop} (S : Rel σ r cx cs ρ L m Fs M X s) {s' : Shared} (S' : St σ L m Fs ((a, P) :: M) X s') : Rel σ r cx cs ρ L m Fs ((a, P) :: M) X s' := by
  refine ⟨S', fun b hb => .tail _ (S.row b hb), fun x i b h1 h2 h3 => ?_, S.cl, S.len⟩
  obtain ⟨v, h4, h5⟩ := S.val x i b h1 h2 h3
  refine ⟨v, ?_, ?_⟩
  · rcases h4 with h | ⟨h, c, e1, e2⟩
    · exact .inl h
    · exact .inr ⟨h, c, e1, .tail _ e2⟩
  · exact h5.mono (Sub.refl X) (fun _ h _ => .tail _ h) fun _ h => h
theorem Raised.dropM {a : Addr} {P : Obj → Prop} {v : Value} {msg : PySem.Str} (h : Raised σ L m Fs ((a, P) :: M) X s v msg) : Raised σ L m Fs M X s v msg := by
  obtain ⟨e, d, rfl, h⟩ := h
  refine ⟨e, d, rfl, ?_⟩
  rcases h with ⟨T, h⟩ | h
  · refine .inl ⟨T, ?_⟩
    have h1 := h.permM (M' := (a, P) :: (e, ExcP d (.ref T)) :: (T, TbP) :: (d, MsgP msg) :: M) (List.perm_middle (l₁ := [(e, ExcP d (.ref T)), (T, TbP), (d, MsgP msg)]))
    exact h1.dropM
  · refine .inr ?_
    have h1 := h.permM (M' := (a, P) :: (e, ExcP d .none) :: (d, MsgP msg) :: M) (List.perm_middle (l₁ := [(e, ExcP d .none), (d, MsgP msg)]))
    exact h1.dropM
theorem s_inv {op : CmpOp} {x : PySem.Str} {p1 : Pos} {i : Nat} {p : PV} {v : Value} {Q : Bool → Prop} (V : EnvIs env L cx.ns cs) (S : Rel σ r cx cs ρ L m Fs M X s) (hi : isVar cx x = some i) (hv : Rep σ r X p v) (hw : invP op ρ[i]? p Q)
    (H : ∀ b s', St σ L m Fs M X s' → Q b → Q' (.bool b) s') : wpAny σ.M A (eval (.Name x p1) env) (fun w s' => wpAny σ.M A (compareOp op v w) Q' E s') E s := by
  have own : ∀ b, ρ[i]? = some b → b ≠ .u → ∃ w, Holds cx.ns cs m M x w ∧ BRep σ r X M b w := fun b hb hne => S.val x i b hi hb hne
  have hin : ∀ q, ρ[i]? = some (.v q) → (inP p q Q → wpAny σ.M A (eval (.Name x p1) env) (fun w s' => wpAny σ.M A (compareOp .In v w) Q' E s') E s) := fun q he hw => let ⟨w, h1, h2⟩ := own _ he (fun h => nomatch h); s_name V S.st h1 (s_in S.st hv h2 hw H)
  have hni : ∀ q, ρ[i]? = some (.v q) → (inP p q (fun b => Q (!b)) → wpAny σ.M A (eval (.Name x p1) env) (fun w s' => wpAny σ.M A (compareOp .NotIn v w) Q' E s') E s) := fun q he hw => let ⟨w, h1, h2⟩ := own _ he (fun h => nomatch h); s_name V S.st h1 (s_notin S.st hv h2 hw H)
  cases he : ρ[i]? with
  | none => rw [he] at hw; cases op <;> exact False.elim hw
  | some b =>
    rw [he] at hw
    cases b with
    | v q => cases op with
      | In => exact hin q he hw
      | NotIn => exact hni q he hw
      | _ => exact False.elim hw
    | os ks l =>
      obtain ⟨w, h1, h2⟩ := own _ he (fun h => nomatch h)
      cases h2 with
      | mk a vs _ h3 h4 h5 h6 =>
        cases op with
        | In => cases p with
          | str y => exact rep_str hv fun t => s_name V S.st h1 (wpAny_in_of (strKind_is _ _ _ _) h4 (S.st.dictM h3).mapOf (by rw [valueAt_some _ _ _ h5]; exact H _ _ (S.st.toks _) hw))
          | _ => exact False.elim hw
        | NotIn => cases p with
          | str y => exact rep_str hv fun t => s_name V S.st h1 (wpAny_notIn_of (strKind_is _ _ _ _) h4 (S.st.dictM h3).mapOf (by rw [valueAt_some _ _ _ h5]; exact H _ _ (S.st.toks _) hw))
          | _ => exact False.elim hw
        | _ => exact False.elim hw
    | oi ks =>
      obtain ⟨w, h1, h2⟩ := own _ he (fun h => nomatch h)
      cases h2 with
      | mk a vs _ h3 h4 h5 =>
        cases op with
        | In => cases p with
          | int y => exact rep_int hv fun t => s_name V S.st h1 (wpAny_in_of (intKind_is _ _ _ _) h4 (S.st.dictM h3).mapOf (by rw [valueAt_some _ _ _ h5]; exact H _ _ (S.st.toks _) hw))
          | _ => exact False.elim hw
        | NotIn => cases p with
          | int y => exact rep_int hv fun t => s_name V S.st h1 (wpAny_notIn_of (intKind_is _ _ _ _) h4 (S.st.dictM h3).mapOf (by rw [valueAt_some _ _ _ h5]; exact H _ _ (S.st.toks _) hw))
          | _ => exact False.elim hw
        | _ => exact False.elim hw
    | _ => cases op <;> exact False.elim hw
theorem s_dict0 {pos : Pos} (S : St σ L m Fs M X s) (hw : Q (.sd [] [])) (H : Post σ r L m Fs M X Q Q') : wpAny σ.M A (eval (.Dict [] [] pos) env) Q' E s := by
  refine wpAny_Dict_empty ?_
  have S' := S.pushX (o := { cls := .type "dict", data := .dict #[] })
  refine H _ _ _ _ (Sub.cons X _) S' ?_ hw
  exact repSd (.head _) S.sm rfl d_empty .nil
theorem s_dict1 {pos p1 : Pos} {x : PySem.Str} {j : Nat} {e : Expr} (ih : EvOK σ n) (hG : GOK σ cx) (V : EnvIs env L cx.ns cs) (hR : Rm A k (L :: Fs.map (·.1))) (S : Rel σ r cx cs ρ L m Fs M X s)
    (hw : wpE (Ct σ) k ρ (compE n cx e) (fun p => Q (.sd [x] [p])) R) (H : PostE σ r cx cs ρ L m Fs M X Q Q') (HX : PostX σ L m Fs M X R E) :
    wpAny σ.M A (eval (.Dict [some (.Constant (.str x) j p1)] [e] pos) env) Q' E s := by
  have hsm := S.st.sm
  refine wpAny_Dict_pairs (knd := strK σ) (pairs := [(eval (.Constant (.str x) j p1) env, do let y ← eval e env; standAt pos; pure y)]) rfl (by simp) (by simp) ?_
  have S1 := S.addM (S.st.pushM (P := fun o => o.IsDictOf (strK σ) []) (o := { cls := .type "dict", data := .dict #[] }) d_empty)
  refine evalPairs_cons (r_str S1.st fun t s2 S2 => wpAny_bind (ih hG V hR (S1.grow (Sub.refl X) S2) hw (fun v p s3 X3 hX3 S3 hv hq => wpAny_bind (wpAny_standAt (wpAny_pure ?_))) fun v msg s' X' h1 h2 h3 => HX v msg s' X' h1 h2.dropM h3))
  refine evalPairs_nil ⟨[(x, v)], ⟨strKind_is _ _ _ _, rfl, trivial⟩, S3.st.dictM (.head _), fun h' hd hs' => ?_⟩
  have hm : merged [] [(x, v)] = [(x, v)] := rfl
  rw [hm] at hd
  obtain ⟨o, ho, hdo⟩ := Heap.dictOf_iff.mp hd
  have S4 := S3.st.setMut (P' := fun o => o.IsDictOf (strK σ) [(x, v)]) (s' := { s3 with heap := h', toks := s3.toks + [(Value.str x t, v)].length }) .head (fun b ob hb e => (hs'.2 b hb).trans e) ⟨o, ho, hdo⟩
  obtain ⟨o2, hd2, S5⟩ := S4.freeze
  refine H (.ref s.heap.objs.size) (.sd [x] [p]) _ ((s.heap.objs.size, o2) :: X3) (hX3.trans (Sub.cons _ _)) ?_ ?_ hq
  · refine ⟨S5, S.row, fun y i b h1 h2 h3 => ?_, S.cl, S.len⟩
    obtain ⟨w, h4, h5⟩ := S.val y i b h1 h2 h3
    exact ⟨w, h4, h5.mono (hX3.trans (Sub.cons _ _)) (fun _ h _ => h) fun _ h => h⟩
  · exact repSd (vs := [v]) (.head _) hsm rfl hd2 (.cons (Rep.mono (Sub.cons _ _) _ _ hv) .nil)
end
theorem if_says {α : Type} {c : Bool} {a b : α} {P : α → Prop} (h : P (if c = true then a else b)) (hb : P b → False) : c = true ∧ P a := by
  cases c with
  | true => exact ⟨rfl, h⟩
  | false => exact (hb h).elim
theorem if_else {α : Type} {a b : α} {P : α → Prop} (h : P (if false = true then a else b)) : P b := h
theorem if_not {α : Type} {c : Bool} {a b : α} {P : α → Prop} (h : P (if c = true then b else a)) (hb : P b → False) : c = false ∧ P a := by
  cases c with
  | false => exact ⟨rfl, h⟩
  | true => exact (hb h).elim
section
variable {f : Expr → IE} {F : Cx → Expr → IE} {cx : Cx} {P : IE → Prop}
theorem optP {α : Type} {o : Option α} {g : α → IE} {C : Prop} (h : P (onS o g)) (hb : P .bad → False) (K : ∀ a, o = some a → P (g a) → C) : C := by
  cases o with
  | none => exact (hb h).elim
  | some a => exact K a rfl h
theorem armCs_says {C : List CmpOp → List Expr → Prop} {a : Expr} {ops : List CmpOp} {bs : List Expr} (h : P (armCs f cx a ops bs)) (hb : P .bad → False)
    (K1 : ∀ op b, behindInMarks op b = false → P (.cmp op (f a) (f b)) → C [op] [b]) (K2 : ∀ op x i p, behindInMarks op (.Name x p) = false → isVar cx x = some i → P (.inv op (f a) i) → C [op] [.Name x p]) : C ops bs := by
  refine optP (P := P) h hb fun op ho h => ?_
  refine optP (P := P) h hb fun b hbs h => ?_
  rw [one_eq ho, one_eq hbs]
  obtain ⟨hm, h⟩ := if_not (P := P) h hb
  cases hx : asName b with
  | none => rw [hx] at h; exact K1 op b hm h
  | some x =>
    rw [hx] at h
    obtain ⟨p, rfl⟩ := asName_eq hx
    have h : P (if (isMemb op && cx.own.contains x) = true then (onS (isVar cx x) fun i => .inv op (f a) i) else .cmp op (f a) (f (.Name x p))) := h
    cases hc : isMemb op && cx.own.contains x with
    | false => rw [hc] at h; exact K1 op _ hm h
    | true => rw [hc] at h; exact optP (P := P) h hb fun i hi h => K2 op x i p hm hi h
theorem armB_says {C : BoolOp → List Expr → Prop} {op : BoolOp} {es : List Expr} (h : P (armB f op es)) (hb : P .bad → False)
    (K1 : ∀ a b, P (.and (f a) (f b)) → C .And [a, b]) (K2 : ∀ a b, P (.or (f a) (f b)) → C .Or [a, b]) (K3 : ∀ a b c, P (.and (f a) (.and (f b) (f c))) → C .And [a, b, c]) : C op es := by
  cases op with
  | And =>
    have h : P (onE (two? es) (onS (three? es) fun p => .and (f p.1) (.and (f p.2.1) (f p.2.2))) fun p => .and (f p.1) (f p.2)) := h
    cases hp : two? es with
    | some p => rw [hp] at h; rw [two_eq hp]; exact K1 _ _ h
    | none => rw [hp] at h; exact optP (P := P) h hb fun p hp h => by rw [three_eq hp]; exact K3 _ _ _ h
  | Or => exact optP (P := P) h hb fun p hp h => by rw [two_eq hp]; exact K2 _ _ h
theorem armD_says {C : List (Option Expr) → List Expr → Prop} {ks : List (Option Expr)} {es : List Expr} (h : P (armD f ks es)) (hb : P .bad → False) (K1 : P .dict0 → C [] []) (K2 : ∀ x j p e, P (.dict1 x (f e)) → C [some (.Constant (.str x) j p)] [e]) : C ks es := by
  have h : P (if (ks.isEmpty && es.isEmpty) = true then .dict0 else onS (one? ks) fun k => onS (oStr k) fun x => onS (one? es) fun e => .dict1 x (f e)) := h
  cases hc : ks.isEmpty && es.isEmpty with
  | true =>
    rw [hc] at h
    have hc := (Bool.and_eq_true _ _).mp hc
    rw [List.isEmpty_iff.mp hc.1, List.isEmpty_iff.mp hc.2]; exact K1 h
  | false =>
    rw [hc] at h
    refine optP (P := P) h hb fun k hk h => ?_
    refine optP (P := P) h hb fun x hx h => ?_
    refine optP (P := P) h hb fun e he h => ?_
    obtain ⟨j, p, e1⟩ := oStr_eq hx
    rw [one_eq hk, one_eq he, e1]; exact K2 x j p e h
theorem armJ_says {C : List Expr → Prop} {es : List Expr} (h : P (armJ f es)) (hb : P .bad → False) (K : ∀ a k1 p1 e p2 b k2 p3, P (.fst a (f e) b) → C [.Constant (.str a) k1 p1, .FormattedValue e (-1) none p2, .Constant (.str b) k2 p3]) : C es := by
  refine optP (P := P) h hb fun t ht h => ?_
  refine optP (P := P) h hb fun a ha h => ?_
  refine optP (P := P) h hb fun b hb' h => ?_
  refine optP (P := P) h hb fun e he h => ?_
  obtain ⟨k1, p1, e1⟩ := asStr_eq ha
  obtain ⟨k2, p3, e2⟩ := asStr_eq hb'
  obtain ⟨p2, e3⟩ := asFv_eq he
  rw [three_eq ht, e1, e2, e3]
  exact K a k1 p1 e p2 b k2 p3 h
theorem armL_says {C : List Comprehension → Prop} {elt : Expr} {gs : List Comprehension} {sc : Scope} (h : P (armL F cx elt gs sc)) (hb : P .bad → False)
    (K : ∀ x p it ifs, compOk cx x sc = true → ifs.length ≤ 1 → P (.lc cx.d (F (inComp cx x sc) elt) (F cx it) (ifs.head?.map (F (inComp cx x sc)))) → C [⟨.Name x p, it, ifs, 0⟩]) : C gs := by
  refine optP (P := P) h hb fun g hg h => ?_
  refine optP (P := P) h hb fun x hx h => ?_
  obtain ⟨hc, h⟩ := if_says (P := P) h hb
  have hc := (Bool.and_eq_true _ _).mp hc
  obtain ⟨p, e⟩ := asGen_eq hx
  rw [one_eq hg, e]
  exact K x p g.iter g.ifs hc.1 (of_decide_eq_true hc.2) h
theorem armDc_says {C : List Comprehension → Prop} {key val : Expr} {gs : List Comprehension} {sc : Scope} (h : P (armDc F cx key val gs sc)) (hb : P .bad → False)
    (K : ∀ x p it, compOk cx x sc = true → P (.dc cx.d (F (inComp cx x sc) key) (F (inComp cx x sc) val) (F cx it)) → C [⟨.Name x p, it, [], 0⟩]) : C gs := by
  refine optP (P := P) h hb fun g hg h => ?_
  refine optP (P := P) h hb fun x hx h => ?_
  obtain ⟨hc, h⟩ := if_says (P := P) h hb
  have hc := (Bool.and_eq_true _ _).mp hc
  obtain ⟨p, e⟩ := asGen_eq hx
  rw [List.isEmpty_iff.mp hc.2] at e
  rw [one_eq hg, e]
  exact K x p g.iter hc.1 h
end
section
variable {σ : Sig} {r : Option Addr} {cx : Cx} {cs : List (PySem.Str × Addr)} {k : Nat} {ρ : List Bd} {A : Around} {E : Value → Shared → Prop} {L : Addr} {m : Know} {Fs : List (Addr × Know)} {M : Mut} {X : Led} {s : Shared} {env : Env} {Q : PV → Prop} {Q' : Value → Shared → Prop} {n : Nat} {R : PySem.Str → Prop}
theorem ev_meth {a : Expr} {f : PySem.Str} {ap p : Pos} {es : List Expr} (ih : EvOK σ n) (hG : GOK σ cx) (V : EnvIs env L cx.ns cs) (hR : Rm A k (L :: Fs.map (·.1))) (S : Rel σ r cx cs ρ L m Fs M X s)
    (hw : wpE (Ct σ) k ρ (armM (compE n cx) a f ap es p) Q R) (H : PostE σ r cx cs ρ L m Fs M X Q Q') (HX : PostX σ L m Fs M X R E) : wpAny σ.M A (eval (.Call (.Attribute a f ap) es [] p) env) Q' E s := by
  have HS : ∀ {X1 : Led} {s1 : Shared}, Sub X X1 → Rel σ r cx cs ρ L m Fs M X1 s1 → Post σ r L m Fs M X1 Q Q' := fun hX1 S1 v p s' X' hX S' hv hq => H v p s' X' (hX1.trans hX) (S1.grow hX S') hv hq
  have bad : wpE (Ct σ) k ρ .bad Q R → False := fun h => wr_bad h
  obtain ⟨h0, hw⟩ := if_not (P := fun ir => wpE (Ct σ) k ρ ir Q R) hw bad
  have hp := isCall0_no h0
  refine optP (P := fun ir => wpE (Ct σ) k ρ ir Q R) hw bad fun b hb hw => ?_
  rw [one_eq hb]
  obtain ⟨hb, hw⟩ := if_says (P := fun ir => wpE (Ct σ) k ρ ir Q R) hw bad
  obtain ⟨hl, hs⟩ := (Bool.and_eq_true _ _).mp hb
  have few : ((backTo p (starEach [b] env)).all (fun x => !x.1) && (backToKw p (keywordEach [] env)).all (fun x => x.1.isSome)
    && decide (([b] : List Expr).length + ([] : List Keyword).length + (if ([] : List Keyword).isEmpty then 0 else 1) < 30)) = true := by rw [star1 hs]; rfl
  have h1s := (noStar_cons hs).1 env
  have na := noStar_any hs p env
  cases e : f == "get" with
  | true =>
    rw [e] at hw
    rw [beq_iff_eq.mp e]
    refine r_meth F.plainAttrs_dict F.slot_dict_get F.type_dict_get (ih hG V hR S (wr_getm hw) (fun v p s1 X1 hX1 S1 hv h1 => ?_) HX) (base_plain hp) few hl na
    cases p with
    | sd ks l =>
      refine inv_sd hv fun a o vs ha hm hl hd hv' => ?_
      have D := S1.st.dictX ha hd
      exact ⟨⟨D.typeIs, D.mapOf.noDict⟩, r_items (ih hG V hR S1 h1.2 (fun w q s2 X2 hX2 S2 hq h2 => r_spl0 (s_getm S2.st (repSd (hX2 _ ha) hm hl hd (hv'.mono hX2)) hq h2 (HS (hX1.trans hX2) S2))) (HX.mono hX1)) h1s⟩
    | _ => exact False.elim h1.1
  | false =>
    rw [e] at hw
    obtain ⟨e, hw⟩ := if_says (P := fun ir => wpE (Ct σ) k ρ ir Q R) (if_else (P := fun ir => wpE (Ct σ) k ρ ir Q R) hw) bad
    rw [beq_iff_eq.mp e]
    refine r_meth F.plainAttrs_list F.slot_list_index F.type_list_index (ih hG V hR S (wr_lidx hw) (fun v p s1 X1 hX1 S1 hv h1 => ?_) HX) (base_plain hp) few hl na
    cases p with
    | list l =>
      refine rep_list hv fun a vs n' ha hv' => ?_
      exact ⟨⟨⟨_, S1.st.getX ha, rfl⟩, fun b e => by cases e; exact ⟨_, S1.st.getX ha, rfl⟩⟩, r_items (ih hG V hR S1 h1.2 (fun w q s2 X2 hX2 S2 hq h2 => r_spl0 (s_lidx S2.st (repL (hX2 _ ha) (hv'.mono hX2)) hq h2 (HS (hX1.trans hX2) S2))) (HX.mono hX1)) h1s⟩
    | _ => exact False.elim h1.1
theorem ev_name {x : PySem.Str} {np pos : Pos} {es : List Expr} (hK : KOK σ.K) (ih : EvOK σ n) (hG : GOK σ cx) (V : EnvIs env L cx.ns cs) (hR : Rm A k (L :: Fs.map (·.1))) (S : Rel σ r cx cs ρ L m Fs M X s)
    (hw : wpE (Ct σ) k ρ (armN (compE n cx) cx x es) Q R) (H : PostE σ r cx cs ρ L m Fs M X Q Q') (HX : PostX σ L m Fs M X R E) : wpAny σ.M A (eval (.Call (.Name x np) es [] pos) env) Q' E s := by
  have HS : ∀ {X1 : Led} {s1 : Shared}, Sub X X1 → Rel σ r cx cs ρ L m Fs M X1 s1 → Post σ r L m Fs M X1 Q Q' := fun hX1 S1 v p s' X' hX S' hv hq => H v p s' X' (hX1.trans hX) (S1.grow hX S') hv hq
  have bad : wpE (Ct σ) k ρ .bad Q R → False := fun h => wr_bad h
  unfold armN at hw
  cases hg : glo cx x with
  | no => rw [hg] at hw; exact wr_bad hw
  | fn f =>
    rw [hg] at hw
    obtain ⟨_, hw⟩ := if_not (P := fun ir => wpE (Ct σ) k ρ ir Q R) hw bad
    obtain ⟨hs, hw⟩ := if_says (P := fun ir => wpE (Ct σ) k ρ ir Q R) hw bad
    exact s_call ih hG V hR hg hs S (wr_call hw) H HX
  | bi b =>
    rw [hg] at hw
    obtain ⟨h1, h2⟩ := glo_bi hg
    obtain ⟨h3, h4⟩ := hG.bi _ _ h2
    obtain ⟨hs, hw⟩ := if_says (P := fun ir => wpE (Ct σ) k ρ ir Q R) hw bad
    have na := noStar_any hs pos env
    cases ha : one? es with
    | some a =>
      rw [ha] at hw
      have hw : wpE (Ct σ) k ρ (onS (biOne b) fun b' => .bi b' (compE n cx a)) Q R := hw
      rw [one_eq ha] at hs na ⊢
      refine optP (P := fun ir => wpE (Ct σ) k ρ ir Q R) hw bad fun b' hb' hw => ?_
      have go : ∀ {Q2 : List Value → Shared → Prop}, (∀ v p s1 X1, Sub X X1 → Rel σ r cx cs ρ L m Fs M X1 s1 → Rep σ r X1 p v → biP b' p Q → Q2 [v] s1) → wpAny σ.M A (spliced (backTo pos (starEach [a] env))) Q2 E s :=
        fun h => r_items (ih hG V hR S (wr_bi hw) (fun v p s1 X1 hX1 S1 hv hp => r_spl0 (h v p s1 X1 hX1 S1 hv hp)) HX) ((noStar_cons hs).1 env)
      cases b with
      | isinstance => exact nS hb'
      | str => exact nS hb'
      | len => cases hb'; exact r_callB S.st V h1 h3 h4 (go fun v p s1 X1 hX1 S1 hv h1 => s_len S1.st hv h1 (HS hX1 S1)) na
      | abs => cases hb'; exact r_callB S.st V h1 h3 h4 (go fun v p s1 X1 hX1 S1 hv h1 => s_abs S1.st hv h1 (HS hX1 S1)) na
      | chr => cases hb'; exact r_callB S.st V h1 h3 h4 (go fun v p s1 X1 hX1 S1 hv h1 => s_chr S1.st hv h1 (HS hX1 S1)) na
      | list => cases hb'; exact r_callT S.st V h1 h3 h4 (go fun v p s1 X1 hX1 S1 hv h1 => s_list S1.st hR.hd hv h1 (HS hX1 S1)) na
      | range => cases hb'; exact r_callT S.st V h1 h3 h4 (go fun v p s1 X1 hX1 S1 hv h1 => s_range S1.st hv h1 (HS hX1 S1)) na
      | max => cases hb'; exact r_callB S.st V h1 h3 h4 (go fun v p s1 X1 hX1 S1 hv h1 => s_max S1.st hR.hd hv h1 (HS hX1 S1)) na
    | none =>
      rw [ha] at hw
      have hw : wpE (Ct σ) k ρ (onS (two? es) fun p => armBi2 (compE n cx) cx b p) Q R := hw
      refine optP (P := fun ir => wpE (Ct σ) k ρ ir Q R) hw bad fun p hp hw => ?_
      obtain ⟨u, w⟩ := p
      rw [two_eq hp] at hs na ⊢
      obtain ⟨n1, n2⟩ := noStar_cons hs
      have m1 := n1 env
      have m2 := (noStar_cons n2).1 env
      cases b with
      | max => exact r_callB S.st V h1 h3 h4 (r_items (ih hG V hR S (wr_max2 hw) (fun v p s1 X1 hX1 S1 hv h1 => r_items (ih hG V hR S1 h1 (fun w q s2 X2 hX2 S2 hq h2 => r_spl0 (s_max2 S2.st hR.hd (Rep.mono hX2 _ _ hv) hq h2 (HS (hX1.trans hX2) S2))) (HX.mono hX1)) m2) HX) m1) na
      | isinstance =>
        refine optP (P := fun ir => wpE (Ct σ) k ρ ir Q R) hw bad fun y hy hw => ?_
        obtain ⟨yp, ey⟩ := asName_eq hy
        cases (show w = .Name y yp from ey)
        have hw : wpE (Ct σ) k ρ (if isFn (glo cx y) 246 = true then .bi .isVec (compE n cx u) else if isStrB (glo cx y) = true then .bi .isStr (compE n cx u) else .bad) Q R := hw
        cases hg2 : isFn (glo cx y) 246 with
        | true =>
          rw [hg2] at hw
          obtain ⟨g1, g2⟩ := glo_fn (isFn_eq hg2)
          obtain ⟨g3, g4⟩ := hG.fn _ _ g2
          exact r_callB S.st V h1 h3 h4 (r_items (ih hG V hR S (wr_bi hw) (fun v p s1 X1 hX1 S1 hv h1 => r_items (r_global S1.st V g1 g3 (r_spl0 (s_isVec hK S1.st hv h1 (HS hX1 S1)))) m2) HX) m1) na
        | false =>
          rw [hg2] at hw
          obtain ⟨hg2, hw⟩ := if_says (P := fun ir => wpE (Ct σ) k ρ ir Q R) (if_else (P := fun ir => wpE (Ct σ) k ρ ir Q R) hw) bad
          obtain ⟨g1, g2⟩ := glo_bi (isStrB_eq hg2)
          obtain ⟨g3, g4⟩ := hG.bi _ _ g2
          exact r_callB S.st V h1 h3 h4 (r_items (ih hG V hR S (wr_bi hw) (fun v p s1 X1 hX1 S1 hv h1 => r_items (r_builtin S1.st V g1 g3 g4 (r_spl0 (s_isStr hK S1.st hv h1 (HS hX1 S1)))) m2) HX) m1) na
      | _ => exact wr_bad hw
end
section
variable {σ : Sig}
theorem ev_step {n : Nat} (hK : KOK σ.K) (ih : EvOK σ n) (it : TvOK σ n) (mo : More σ n) : EvOK σ (n + 1) := by
  intro r cx cs k ρ L m Fs M X s env A E e Q R Q' hG V hR S hw H HX
  have hsl : sizeLine = 16777216 := sizeLine_eq
  have hu := S.room hR
  have HS : ∀ {X1 : Led} {s1 : Shared}, Sub X X1 → Rel σ r cx cs ρ L m Fs M X1 s1 → Post σ r L m Fs M X1 Q Q' := fun hX1 S1 v p s' X' hX S' hv hq => H v p s' X' (hX1.trans hX) (S1.grow hX S') hv hq
  have bad : wpE (Ct σ) k ρ .bad Q R → False := fun h => wr_bad h
  have H0 : ∀ {v : Value} {p : PV}, Rep σ r X p v → Q p → Q' v s := fun hv hq => H _ _ _ X (Sub.refl X) S hv hq
  cases e with
  | Constant c j pos =>
    cases c with
    | none => exact Constant_none (H0 repN (wr_lit hw))
    | bool b => exact Constant_bool (H0 repB (wr_lit hw))
    | int i => exact r_int S.st fun t s' S' => H _ _ _ X (Sub.refl X) (S.grow (Sub.refl X) S') repI (wr_lit hw)
    | str x => exact r_str S.st fun t s' S' => H _ _ _ X (Sub.refl X) (S.grow (Sub.refl X) S') repS (wr_lit hw)
    | _ => exact wr_bad hw
  | Name x pos =>
    exact optP (P := fun ir => wpE (Ct σ) k ρ ir Q R) hw bad fun i hi hw => let ⟨p, hp, hw⟩ := wr_var hw; s_var V S hi hp fun v hv => H0 hv hw
  | BinOp a op b pos =>
    exact wpAny_BinOp (ih hG V hR S (wr_bin hw) (fun v p s1 X1 hX1 S1 hv h1 => ih hG V hR S1 h1 (fun w q s2 X2 hX2 S2 hq h2 => s_bin S2.st (Rep.mono hX2 _ _ hv) hq h2 (HS (hX1.trans hX2) S2)) (HX.mono hX1)) HX)
  | UnaryOp op a pos =>
    cases op with
    | USub => exact UnaryOp_ (ih hG V hR S (wr_neg hw) (fun v p s1 X1 hX1 S1 hv h1 => s_neg S1.st hv h1 (HS hX1 S1)) HX)
    | Not => exact UnaryOp_ (ih hG V hR S (wr_not hw) (fun v p s1 X1 hX1 S1 hv h1 => s_not S1.st hv h1 (HS hX1 S1)) HX)
    | _ => exact wr_bad hw
  | Compare a ops bs pos =>
    refine armCs_says (C := fun ops bs => wpAny σ.M A (eval (.Compare a ops bs pos) env) Q' E s) (P := fun ir => wpE (Ct σ) k ρ ir Q R) hw bad (fun op b hm hw => ?_) fun op x i p1 hm hi hw => ?_
    · exact cmp1 (ih hG V hR S (wr_cmp hw) (fun v p s1 X1 hX1 S1 hv h1 => ih hG V hR S1 h1 (fun w q s2 X2 hX2 S2 hq h2 => s_cmp S2.st hu (Rep.mono hX2 _ _ hv) hq h2 fun b s3 S3 hb => HS (hX1.trans hX2) S2 _ _ _ X2 (Sub.refl X2) S3 repB hb) (HX.mono hX1)) HX) hm
    · refine cmp1 (ih hG V hR S (wr_inv hw) (fun v p s1 X1 hX1 S1 hv h1 => ?_) HX) hm
      exact s_inv V S1 hi hv h1 fun b s3 S3 hb => HS hX1 S1 _ _ _ X1 (Sub.refl X1) S3 repB hb
  | BoolOp op es pos =>
    refine armB_says (C := fun op es => wpAny σ.M A (eval (.BoolOp op es pos) env) Q' E s) (P := fun ir => wpE (Ct σ) k ρ ir Q R) hw bad (fun a b hw => ?_) (fun a b hw => ?_) fun a b c hw => ?_
    · exact BoolOp_and (ih hG V hR S (wr_and hw) (fun v p s1 X1 hX1 S1 hv h1 => s_tru S1.st hv h1 fun b s2 S2 hb => by
        cases b with
        | true => exact BoolOp_one (ih hG V hR (S1.grow (Sub.refl _) S2) (hb.1 rfl) (fun v p s3 X3 hX3 S3 hv hq => H _ _ _ _ (hX1.trans hX3) S3 hv hq) (HX.mono hX1))
        | false => exact H _ _ _ _ hX1 (S1.grow (Sub.refl _) S2) hv (hb.2 rfl)) HX)
    · exact BoolOp_or (ih hG V hR S (wr_or hw) (fun v p s1 X1 hX1 S1 hv h1 => s_tru S1.st hv h1 fun b s2 S2 hb => by
        cases b with
        | false => exact BoolOp_one (ih hG V hR (S1.grow (Sub.refl _) S2) (hb.2 rfl) (fun v p s3 X3 hX3 S3 hv hq => H _ _ _ _ (hX1.trans hX3) S3 hv hq) (HX.mono hX1))
        | true => exact H _ _ _ _ hX1 (S1.grow (Sub.refl _) S2) hv (hb.1 rfl)) HX)
    · exact BoolOp_and (ih hG V hR S (wr_and hw) (fun v p s1 X1 hX1 S1 hv h1 => s_tru S1.st hv h1 fun b s2 S2 hb => by
        cases b with
        | true =>
          exact BoolOp_and (ih hG V hR (S1.grow (Sub.refl _) S2) (wr_and (hb.1 rfl)) (fun v p s3 X3 hX3 S3 hv h3 => s_tru S3.st hv h3 fun b s4 S4 hb => by
            cases b with
            | true => exact BoolOp_one (ih hG V hR (S3.grow (Sub.refl _) S4) (hb.1 rfl) (fun v p s5 X5 hX5 S5 hv hq => H _ _ _ _ (hX1.trans (hX3.trans hX5)) S5 hv hq) (HX.mono (hX1.trans hX3)))
            | false => exact H _ _ _ _ (hX1.trans hX3) (S3.grow (Sub.refl _) S4) hv (hb.2 rfl)) (HX.mono hX1))
        | false => exact H _ _ _ _ hX1 (S1.grow (Sub.refl _) S2) hv (hb.2 rfl)) HX)
  | IfExp c a b pos =>
    exact IfExp_ (it hG V hR S (wr_ite hw) (fun b s1 X1 hX1 S1 hb => by
      cases b with
      | true => rw [if_pos rfl]; exact ih hG V hR S1 (hb.1 rfl) (fun v p s3 X3 hX3 S3 hv hq => H _ _ _ _ (hX1.trans hX3) S3 hv hq) (HX.mono hX1)
      | false => rw [if_neg (by decide)]; exact ih hG V hR S1 (hb.2 rfl) (fun v p s3 X3 hX3 S3 hv hq => H _ _ _ _ (hX1.trans hX3) S3 hv hq) (HX.mono hX1)) HX)
  | List es pos =>
    obtain ⟨hs, hw⟩ := if_says (P := fun ir => wpE (Ct σ) k ρ ir Q R) hw bad
    exact List_ (evs_ok ih hG V hR hs S (wr_list hw) (fun vs ps s1 X1 hX1 S1 hvs hq => s_newList S1.st hvs (by rw [← hvs.length]; omega) hq.2 (HS hX1 S1)) HX)
  | Tuple es j pos =>
    obtain ⟨hs, hw⟩ := if_says (P := fun ir => wpE (Ct σ) k ρ ir Q R) hw bad
    exact Tuple_ (evs_ok ih hG V hR hs S (wr_tup hw) (fun vs ps s1 X1 hX1 S1 hvs hq => s_newTuple S1.st hvs (by rw [← hvs.length]; omega) hq.2 (HS hX1 S1)) HX)
  | Dict ks es pos =>
    refine armD_says (C := fun ks es => wpAny σ.M A (eval (.Dict ks es pos) env) Q' E s) (P := fun ir => wpE (Ct σ) k ρ ir Q R) hw bad (fun hw => ?_) fun x j p e hw => ?_
    · exact s_dict0 S.st (wr_dict0 hw) (HS (Sub.refl X) S)
    · exact s_dict1 ih hG V hR S (wr_dict1 hw) H HX
  | Subscript a b pos =>
    refine Subscript_ (ih hG V hR S (wr_idx hw) (fun v p s1 X1 hX1 S1 hv h1 => ih hG V hR S1 h1 (fun w q s2 X2 hX2 S2 hq h2 => s_idx ?_ S2.st (Rep.mono hX2 _ _ hv) hq h2 (HS (hX1.trans hX2) S2)) (HX.mono hX1)) HX)
    rintro a1 a2 a3 a4 rfl
    cases n <;> exact wr_bad h1
  | Attribute a f pos =>
    obtain ⟨h0, hw⟩ := if_not (P := fun ir => wpE (Ct σ) k ρ ir Q R) hw bad
    refine optP (P := fun ir => wpE (Ct σ) k ρ ir Q R) hw bad fun fl hfl hw => ?_
    rw [← fldOf_eq hfl]
    exact Attribute_any_ (ih hG V hR S (wr_fld hw) (fun v p s1 X1 hX1 S1 hv h1 => s_fld hK S1.st hv h1 (HS hX1 S1)) HX) (attr_plain (isCall0_no h0))
  | Call g es ks pos =>
    obtain ⟨hk, hw⟩ := if_says (P := fun ir => wpE (Ct σ) k ρ ir Q R) hw bad
    rw [List.isEmpty_iff.mp hk]
    cases g with
    | Attribute a f ap => exact ev_meth ih hG V hR S hw H HX
    | Name x np => exact ev_name hK ih hG V hR S hw H HX
    | _ => exact wr_bad hw
  | JoinedStr es pos =>
    refine armJ_says (C := fun es => wpAny σ.M A (eval (.JoinedStr es pos) env) Q' E s) (P := fun ir => wpE (Ct σ) k ρ ir Q R) hw bad fun a k1 p1 e p2 b k2 p3 hw => ?_
    refine JoinedStr_many (joinParts_cons (r_str S.st fun t s1 S1 => ?_))
    have S1' := S.grow (Sub.refl X) S1
    obtain ⟨hz, hw⟩ := wr_fst hw
    show (Str.empty ++ a).length ≤ sizeLine ∧ wpAny σ.M A (joinParts (Str.empty ++ a) _) Q' E s1
    rw [empty_app]
    refine ⟨by omega, joinParts_cons (wpAny_FormattedValue_plain (ih hG V hR S1' hw (fun v p s2 X2 hX2 S2 hv h2 => ?_) HX))⟩
    have h2' : ∃ z, p = .str z ∧ (a ++ z ++ b).length ≤ 1000 ∧ Q (.str (a ++ z ++ b)) := by
      cases p with
      | str z => exact ⟨z, rfl, h2⟩
      | _ => exact False.elim h2
    obtain ⟨z, rfl, hz2, h2⟩ := h2'
    refine rep_str hv fun t2 => ?_
    have e1 := strLen_append (a ++ z) b
    have e2 := strLen_append a z
    have last : ∀ (s3 : Shared) (t3 : Tok), St σ L m Fs M X2 s3 → (a ++ z).length ≤ sizeLine ∧ wpAny σ.M A (joinParts (a ++ z) (evalEach [Expr.Constant (Const.str b) k2 p3] env)) Q' E s3 := by
      intro s3 t3 S3
      refine ⟨by omega, joinParts_cons (r_str S3 fun t4 s4 S4 => ?_)⟩
      refine ⟨by omega, joinParts_nil (H _ _ _ X2 hX2 (S2.grow (Sub.refl _) (S4.toks _)) repS h2) (by omega)⟩
    exact wpAny_formatField_str (last _ t2 S2.st) (last _ t2 (S2.st.toks _)) (by omega)
  | ListComp elt gs sc pos =>
    exact armL_says (C := fun gs => wpAny σ.M A (eval (.ListComp elt gs sc pos) env) Q' E s) (P := fun ir => wpE (Ct σ) k ρ ir Q R) hw bad fun x px it' ifs hc hl hw => mo.lc hG V hR S hc hl hw H HX
  | DictComp key val gs sc pos =>
    exact armDc_says (C := fun gs => wpAny σ.M A (eval (.DictComp key val gs sc pos) env) Q' E s) (P := fun ir => wpE (Ct σ) k ρ ir Q R) hw bad fun x px it' hc hw => mo.dc hG V hR S hc hw H HX
  | _ => exact wr_bad hw
end
end Mine

end
section
open PySem PySem.W PySem.Calls PyProof.Rows PySem.Spec
set_option Elab.async false
set_option maxRecDepth 100000
set_option linter.unusedVariables false
namespace Mine
theorem armN_P {f : Expr → IE} {cx : Cx} {x : PySem.Str} {es : List Expr} {P : IE → Prop} (hb : P .bad) (hc : ∀ a es, P (.call a es)) (hi : ∀ b a, P (.bi b a)) (hm : ∀ a b, P (.max2 a b)) : P (armN f cx x es) := by
  unfold armN
  split
  · split
    · exact hb
    · split
      · exact hc _ _
      · exact hb
  · rename_i b hg
    unfold armBi
    have on : ∀ {α : Type} {o : Option α} {g : α → IE}, (∀ a, P (g a)) → P (onS o g) := fun {α o g} h => by cases o with | none => exact hb | some a => exact h a
    split
    · cases one? es with
      | some a => exact on fun b' => hi _ _
      | none => refine on fun p => ?_; cases b with
        | max => exact hm _ _
        | isinstance => exact on fun y => by unfold armI; split; exact hi _ _; split; exact hi _ _; exact hb
        | _ => exact hb
    · exact hb
  · exact hb
theorem armM_no {f : Expr → IE} {a : Expr} {x : PySem.Str} {ap p : Pos} {es : List Expr} {P : IE → Prop} (h : P (armM f a x ap es p)) (bad : P .bad → False) (h1 : ∀ a b, P (.getm a b) → False) (h2 : ∀ a b, P (.lidx a b) → False) : False :=
  optP (P := P) (if_not (P := P) h bad).2 bad fun b hb h => by
    have h := (if_says (P := P) h bad).2
    cases e : x == "get" with
    | true => rw [e] at h; exact h1 _ _ h
    | false => rw [e] at h; exact h2 _ _ (if_says (P := P) (if_else (P := P) h) bad).2
section
variable {σ : Sig}
theorem tv_step {n : Nat} (hK : KOK σ.K) (ih : EvOK σ n) (it : TvOK σ n) (is : EvOK σ (n + 1)) : TvOK σ (n + 1) := by
  intro r cx cs k ρ L m Fs M X s env A E e Q R Q' hG V hR S hw H HX
  have hu := S.room hR
  have bad : wpT (Ct σ) k ρ .bad Q R → False := fun h => wt_bad h
  have HT : ∀ {v : Value} {p : PV} {s1 : Shared} {X1 : Led}, Sub X X1 → Rel σ r cx cs ρ L m Fs M X1 s1 → Rep σ r X1 p v → truP p Q → wpAny σ.M A (truthy v) Q' E s1 := fun hX S1 hv hp => s_tru S1.st hv hp fun b s' S' hb => H b s' _ hX (S1.grow (Sub.refl _) S') hb
  have viaN : ∀ {x : PySem.Str} {pos : Pos}, e = .Name x pos → wpE (Ct σ) k ρ (compE (n + 1) cx e) (fun p => truP p Q) R → wpAny σ.M A (isTrue e env (eval e env)) Q' E s := by
    rintro x pos rfl hw
    exact tname (is hG V hR S hw (fun v p s1 X1 hX1 S1 hv hp => HT hX1 S1 hv hp) HX)
  have viaC : ∀ {f : Expr} {es : List Expr} {ks : List Keyword} {pos : Pos}, e = .Call f es ks pos → wpE (Ct σ) k ρ (compE (n + 1) cx e) (fun p => truP p Q) R → wpAny σ.M A (isTrue e env (eval e env)) Q' E s := by
    rintro f es ks pos rfl hw
    exact tcall (is hG V hR S hw (fun v p s1 X1 hX1 S1 hv hp => HT hX1 S1 hv hp) HX)
  cases e with
  | Constant c j pos => cases c <;> exact False.elim hw
  | Name x pos =>
    refine viaN rfl ?_
    show wpE (Ct σ) k ρ (onS (isVar cx x) fun i => .var i) (fun p => truP p Q) R
    exact optP (P := fun ir => wpT (Ct σ) k ρ ir Q R) hw bad fun i hi hw => let ⟨p, hp, hw⟩ := ts_var hw; by rw [hi]; exact we_var' hp hw
  | UnaryOp op a pos =>
    cases op with
    | Not => exact isTrue_not (it hG V hR S (ts_not hw) (fun b s' X' hX S' hb => H _ _ _ hX S' hb) HX)
    | _ => exact False.elim hw
  | Compare a ops bs pos =>
    refine armCs_says (C := fun ops bs => wpAny σ.M A (isTrue (.Compare a ops bs pos) env (eval (.Compare a ops bs pos) env)) Q' E s) (P := fun ir => wpT (Ct σ) k ρ ir Q R) hw bad (fun op b hm hw => ?_) fun op x i p1 hm hi hw => ?_
    · exact tcmp1 (ih hG V hR S (ts_cmp hw) (fun v p s1 X1 hX1 S1 hv h1 => ih hG V hR S1 h1 (fun w q s2 X2 hX2 S2 hq h2 => s_cmp S2.st hu (Rep.mono hX2 _ _ hv) hq h2 fun b s3 S3 hb => wpAny_truthy_bool (H b s3 _ (hX1.trans hX2) (S2.grow (Sub.refl _) S3) hb)) (HX.mono hX1)) HX) hm
    · refine tcmp1 (ih hG V hR S (ts_inv hw) (fun v p s1 X1 hX1 S1 hv h1 => ?_) HX) hm
      exact s_inv V S1 hi hv h1 fun b s3 S3 hb => wpAny_truthy_bool (H b s3 _ hX1 (S1.grow (Sub.refl _) S3) hb)
  | BoolOp op es pos =>
    refine armB_says (C := fun op es => wpAny σ.M A (isTrue (.BoolOp op es pos) env (eval (.BoolOp op es pos) env)) Q' E s) (P := fun ir => wpT (Ct σ) k ρ ir Q R) hw bad (fun a b hw => ?_) (fun a b hw => ?_) fun a b c hw => ?_
    · exact isTrue_and (it hG V hR S (ts_and hw) (fun b s1 X1 hX1 S1 hb => by
        cases b with
        | true =>
          rw [if_pos rfl]
          exact isTrue_and (it hG V hR S1 (hb.1 rfl) (fun b s2 X2 hX2 S2 hb => by
            cases b with
            | true => rw [if_pos rfl]; exact isTrue_and_nil (H _ _ _ (hX1.trans hX2) S2 hb)
            | false => rw [if_neg (by decide)]; exact H _ _ _ (hX1.trans hX2) S2 hb) (HX.mono hX1))
        | false => rw [if_neg (by decide)]; exact H _ _ _ hX1 S1 (hb.2 rfl)) HX)
    · exact isTrue_or (it hG V hR S (ts_or hw) (fun b s1 X1 hX1 S1 hb => by
        cases b with
        | true => rw [if_pos rfl]; exact H _ _ _ hX1 S1 (hb.1 rfl)
        | false =>
          rw [if_neg (by decide)]
          exact isTrue_or (it hG V hR S1 (hb.2 rfl) (fun b s2 X2 hX2 S2 hb => by
            cases b with
            | true => rw [if_pos rfl]; exact H _ _ _ (hX1.trans hX2) S2 hb
            | false => rw [if_neg (by decide)]; exact isTrue_or_nil (H _ _ _ (hX1.trans hX2) S2 hb)) (HX.mono hX1))) HX)
    · exact isTrue_and (it hG V hR S (ts_and hw) (fun b s1 X1 hX1 S1 hb => by
        cases b with
        | true =>
          rw [if_pos rfl]
          exact isTrue_and (it hG V hR S1 (ts_and (hb.1 rfl)) (fun b s2 X2 hX2 S2 hb => by
            cases b with
            | true =>
              rw [if_pos rfl]
              exact isTrue_and (it hG V hR S2 (hb.1 rfl) (fun b s3 X3 hX3 S3 hb => by
                cases b with
                | true => rw [if_pos rfl]; exact isTrue_and_nil (H _ _ _ (hX1.trans (hX2.trans hX3)) S3 hb)
                | false => rw [if_neg (by decide)]; exact H _ _ _ (hX1.trans (hX2.trans hX3)) S3 hb) (HX.mono (hX1.trans hX2)))
            | false => rw [if_neg (by decide)]; exact H _ _ _ (hX1.trans hX2) S2 (hb.2 rfl)) (HX.mono hX1))
        | false => rw [if_neg (by decide)]; exact H _ _ _ hX1 S1 (hb.2 rfl)) HX)
  | IfExp c a b pos => exact False.elim hw
  | List es pos => exact False.elim (if_says (P := fun ir => wpT (Ct σ) k ρ ir Q R) hw bad).2
  | Tuple es j pos => exact False.elim (if_says (P := fun ir => wpT (Ct σ) k ρ ir Q R) hw bad).2
  | Dict ks es pos =>
    exact False.elim (armD_says (C := fun _ _ => False) (P := fun ir => wpT (Ct σ) k ρ ir Q R) hw bad (fun h => h) fun _ _ _ _ h => h)
  | Attribute a f pos =>
    exact False.elim (optP (P := fun ir => wpT (Ct σ) k ρ ir Q R) (if_not (P := fun ir => wpT (Ct σ) k ρ ir Q R) hw bad).2 bad fun _ _ h => h)
  | Call g es ks pos =>
    have hw0 := hw
    obtain ⟨hk, hw⟩ := if_says (P := fun ir => wpT (Ct σ) k ρ ir Q R) hw bad
    cases g with
    | Attribute a f ap => exact False.elim (armM_no (P := fun ir => wpT (Ct σ) k ρ ir Q R) hw bad (fun _ _ h => h) fun _ _ h => h)
    | Name x np =>
      refine viaC rfl ?_
      have e : compE (n + 1) cx (.Call (.Name x np) es ks pos) = armN (compE n cx) cx x es := by
        show (if ks.isEmpty = true then _ else IE.bad) = _
        rw [if_pos hk]; rfl
      rw [e]
      exact armN_P (P := fun ir => wpT (Ct σ) k ρ ir Q R → wpE (Ct σ) k ρ ir (fun p => truP p Q) R) (fun h => wt_bad h) (fun a es h => ts_call h) (fun b a h => ts_bi h) (fun a b h => False.elim h) hw
    | _ => exact False.elim hw
  | JoinedStr es pos =>
    exact False.elim (armJ_says (C := fun _ => False) (P := fun ir => wpT (Ct σ) k ρ ir Q R) hw bad fun _ _ _ _ _ _ _ _ h => h)
  | ListComp elt gs sc pos =>
    exact False.elim (armL_says (C := fun _ => False) (P := fun ir => wpT (Ct σ) k ρ ir Q R) hw bad fun _ _ _ _ _ _ h => h)
  | DictComp key val gs sc pos =>
    exact False.elim (armDc_says (C := fun _ => False) (P := fun ir => wpT (Ct σ) k ρ ir Q R) hw bad fun _ _ _ _ h => h)
  | _ => exact False.elim hw
end
end Mine

end
section
open PySem PySem.W PySem.Calls PyProof.Rows PySem.Spec
set_option Elab.async false
set_option maxRecDepth 100000
set_option linter.unusedVariables false
namespace Mine
noncomputable def KIterP (d : Addr) (n ep : Nat) (i : Nat) : Obj → Prop := fun o => o.cls = .type "dict_keyiterator" ∧ o.data = .fields #[.ref d, .int i 0, .int n 0, .int ep 0]
section
variable {σ : Sig} {r : Option Addr} {A : Around} {E : Value → Shared → Prop} {L : Addr} {m : Know} {Fs : List (Addr × Know)} {M : Mut} {X : Led} {s : Shared} {Q' : Value → Shared → Prop} {v : Value} {p : PV}
theorem IterOk.dict {K : Type} [DecidableEq K] {knd : KeyKind σ.prog σ.w K} {d : Addr} {o : Obj} {kvs : List (K × Value)} {es : Array DictEntry} {ep : Nat} (hd : (d, o) ∈ X) (h1 : o.ExactDict) (h2 : o.data = .dict es ep) (h3 : KeysOf knd es) (h4 : Pairs knd es.toList kvs) (h5 : (kvs.map (·.1)).Nodup) :
    IterOk σ X kvs.length (KIterP d kvs.length ep) (fun i v => ∃ kv, kvs[i]? = some kv ∧ knd.is kv.1 v = true) where
  item := by
    intro A E L m Fs M X₁ s it i Q hi hX S hq
    have D : s.heap.DictAt knd d kvs ep := ⟨o, es, S.getX (hX _ hd), h1, h2, h3, h4, h5⟩
    refine wpAny_pyNext_dict_item (S.own _ (.head _)) D (k := kvs[i].1) (v := kvs[i].2) (by simp [hi]) fun key h' hk hit hs => ?_
    exact hq _ _ ⟨kvs[i], by simp [hi], hk⟩ (S.setMut (s' := { s with heap := h' }) Ch.head (fun b o hb e => (hs.2 b hb).trans e) hit)
  fin := by
    intro A E L m Fs M X₁ s it Q hh hX S hq
    have D : s.heap.DictAt knd d kvs ep := ⟨o, es, S.getX (hX _ hd), h1, h2, h3, h4, h5⟩
    exact wpAny_pyNext_dict_end hh (S.own _ (.head _)) D (by simp) fun h' hs => hq _ (S.dropBut (s' := { s with heap := h' }) fun b o hb e => hs b o hb e)
  self := by
    intro A E L m Fs M X₁ s it i Q S hq
    exact wpAny_pyIter_keyiter (S.own _ (.head _)) hq

/-- an iterator over what a value tells -/
theorem s_iter {l : List PV} (S : St σ L m Fs M X s) (h1 : Rep σ r X p v) (hi : iterP p = some l)
    (H : ∀ (a : Addr) (P : Nat → Obj → Prop) (Vp : Nat → Value → Prop) (X₀ : Led) (s' : Shared), IterOk σ X₀ l.length P Vp → Sub X₀ X → St σ L m Fs ((a, P 0) :: M) X s' → (∀ (i : Nat) w X', i < l.length → Vp i w → Sub X X' → ∃ q, l[i]? = some q ∧ Rep σ r X' q w) → Q' (.ref a) s') :
    wpAny σ.M A (pyIter v) Q' E s := by
  unfold iterP at hi
  split at hi
  · cases hi
    refine rep_list h1 fun a vs n ha hv => ?_
    refine r_iterList (vs := vs) S ⟨_, .inr ha, n, rfl⟩ fun it s' S' => ?_
    refine H it _ _ X s' (by rw [hv.length]; exact IterOk.list ⟨_, .inr ha, n, rfl⟩) (Sub.refl X) S' fun i w X' hi hw hX => ?_
    obtain ⟨q, h2, h3⟩ := hv.get' hw
    exact ⟨q, h2, Rep.mono hX _ _ h3⟩
  · split at hi
    · rename_i n hn
      cases hi
      refine rep_rng h1 fun a t u w ha => ?_
      have hl : (rngL n).length = n.toNat := by simp [rngL]
      refine r_iterRange S ha hn.1 hn.2 fun it s' S' => ?_
      refine H it _ _ [] s' (by rw [hl]; exact IterOk.range 0 1 n.toNat) (fun _ h => nomatch h) S' fun i w X' hi hw hX => ?_
      obtain ⟨t, rfl⟩ := hw
      refine ⟨.int (i : Int), ?_, ?_⟩
      · rw [hl] at hi; unfold rngL; rw [List.getElem?_map, List.getElem?_range hi]; rfl
      · have e : (0 + (i : Int) * 1) = (i : Int) := by omega
        rw [e]; exact repI
    · cases hi
  · rename_i ks l
    cases hi
    refine inv_sd h1 fun a o vs ha hm hl ⟨es, ep, k1, k2, k3, k4, k5⟩ hv => ?_
    have D : s.heap.DictAt (strK σ) a (ks.zip vs) ep := ⟨o, es, S.getX ha, k1, k2, k3, k4, k5⟩
    have hz : (ks.zip vs).length = (ks.map PV.str).length := by simp [hl]
    refine wpAny_pyIter_dict hm D ?_
    have S' := S.pushM (P := KIterP a (ks.zip vs).length ep 0) (o := { cls := .type "dict_keyiterator", data := .fields #[.ref a, .int 0 0, .int (ks.zip vs).length 0, .int ep 0] }) ⟨rfl, rfl⟩
    refine H _ _ _ X _ (by rw [← hz]; exact IterOk.dict ha k1 k2 k3 k4 k5) (Sub.refl X) S' fun i w X' hi hw hX => ?_
    obtain ⟨⟨k, u⟩, e1, e2⟩ := hw
    obtain ⟨t, rfl⟩ := Value.isStrOf_shape (x := k) e2
    refine ⟨.str k, ?_, repS⟩
    have e3 : ks[i]? = some k := by
      obtain ⟨h1, h2⟩ := List.getElem?_eq_some_iff.mp e1
      rw [List.getElem_zip] at h2
      have := congrArg Prod.fst h2
      simp only at this
      rw [List.getElem?_eq_some_iff]
      exact ⟨_, this⟩
    rw [List.getElem?_map, e3]; rfl
  · cases hi
end
end Mine

end
section
open PySem PySem.W PySem.Calls PyProof.Rows PySem.Spec
set_option Elab.async false
set_option maxRecDepth 100000
set_option linter.unusedVariables false
namespace Mine

theorem clList_ok {cs : List (PySem.Str × Addr)} : ∀ (ns : List (PySem.Str × NameKind)) (acc : List (PySem.Str × Addr)), (∀ p ∈ acc, cs.lookup p.1 = some p.2) → (∀ y, (y, NameKind.free) ∈ ns → ∃ c, cs.lookup y = some c) →
    ∃ cl, clList ns cs acc = some cl ∧ (∀ p ∈ cl, cs.lookup p.1 = some p.2) ∧ (∀ p ∈ acc, p ∈ cl) ∧ ∀ y, (y, NameKind.free) ∈ ns → ∃ c, (y, c) ∈ cl
  | [], acc, h, _ => ⟨acc, rfl, h, fun _ h => h, fun y hy => nomatch hy⟩
  | (n, k) :: r, acc, h, hf => by
    by_cases hk : k = .free
    · subst hk
      obtain ⟨c, hc⟩ := hf n (.head _)
      obtain ⟨cl, e1, e2, e3, e4⟩ := clList_ok r ((n, c) :: acc) (fun p hp => by
        rcases List.mem_cons.mp hp with rfl | hp
        · exact hc
        · exact h p hp) fun y hy => hf y (.tail _ hy)
      refine ⟨cl, by simp [clList, hc, e1], e2, fun p hp => e3 p (.tail _ hp), fun y hy => ?_⟩
      rcases List.mem_cons.mp hy with e | hy
      · cases e; exact ⟨c, e3 _ (.head _)⟩
      · exact e4 y hy
    · obtain ⟨cl, e1, e2, e3, e4⟩ := clList_ok r acc h fun y hy => hf y (.tail _ hy)
      refine ⟨cl, by simp [clList, hk, e1], e2, e3, fun y hy => ?_⟩
      rcases List.mem_cons.mp hy with e | hy
      · cases e; exact absurd rfl hk
      · exact e4 y hy
theorem lookup_of_all {cs : List (PySem.Str × Addr)} : ∀ {cl : List (PySem.Str × Addr)} {y : PySem.Str} {c : Addr}, (∀ p ∈ cl, cs.lookup p.1 = some p.2) → (y, c) ∈ cl → cl.lookup y = cs.lookup y
  | (z, d) :: r, y, c, h, hm => by
    rw [List.lookup_cons]
    by_cases e : y = z
    · subst e; simp [h _ (.head _)]
    · have e' : (y == z) = false := by simpa using e
      rw [e']
      rcases List.mem_cons.mp hm with q | hm
      · cases q; exact absurd rfl e
      · exact lookup_of_all (fun p hp => h p (.tail _ hp)) hm
theorem compOk_says {cx : Cx} {x : PySem.Str} {sc : Scope} (h : compOk cx x sc = true) : freeAll cx.ns sc.names = true ∧ lookNames sc.names sc.names = true ∧ lookNames (asCells sc.names) (asCells sc.names) = true ∧ oddNames (asCells sc.names) = true ∧
    (x, NameKind.local) ∈ asCells sc.names ∧ (∀ y ∈ sc.names, y.2 ≠ .cell) ∧ sc.kind = .function := by
  unfold compOk at h
  simp only [Bool.and_eq_true, beq_iff_eq, List.all_eq_true, bne_iff_ne, ne_eq] at h
  obtain ⟨⟨⟨⟨⟨⟨h1, h2⟩, h3⟩, h4⟩, h5⟩, h6⟩, h7⟩ := h
  exact ⟨h1, h2, h3, h4, mem_of_lookup h5, h6, h7⟩
theorem free_cell {ns names : List (PySem.Str × NameKind)} (h : freeAll ns names = true) {y : PySem.Str} (hy : (y, NameKind.free) ∈ names) : ns.lookup y = some .cell := by
  have := List.all_eq_true.mp h _ hy
  simpa using this
theorem lookup_mem' {α β : Type} [BEq α] [LawfulBEq α] : ∀ {l : List (α × β)} {x : α} {i : β}, l.lookup x = some i → (x, i) ∈ l
  | (y, j) :: r, x, i, h => by
    rw [List.lookup_cons] at h
    by_cases e : x = y
    · subst e; simp at h; subst h; exact .head _
    · have e' : (x == y) = false := by simpa using e
      rw [e'] at h
      exact .tail _ (lookup_mem' h)
section
variable {σ : Sig} {r : Option Addr} {cx : Cx} {cs cl : List (PySem.Str × Addr)} {k : Nat} {ρ : List Bd} {A : Around} {E : Value → Shared → Prop} {L C : Addr} {m mC : Know} {Fs : List (Addr × Know)} {M M' : Mut} {X X' : Led} {s s' : Shared} {env : Env} {Q' : Value → Shared → Prop} {n : Nat} {x : PySem.Str} {sc : Scope} {v : Value} {p : PV}
theorem inComp_ix {y : PySem.Str} {i : Nat} (h : (inComp cx x sc).ix.lookup y = some i) : (y = x ∧ i = cx.d) ∨ ((y, NameKind.free) ∈ sc.names ∧ isVar cx y = some i) := by
  have hm := lookup_mem' h
  unfold inComp at hm
  obtain ⟨⟨z, kd⟩, hz, e⟩ := List.mem_filterMap.mp hm
  cases kd <;> simp at e
  · obtain ⟨rfl, rfl, rfl⟩ := e; exact .inl ⟨rfl, rfl⟩
  · obtain ⟨e1, rfl⟩ := e; exact .inr ⟨hz, e1⟩
theorem GOK.comp (hG : GOK σ cx) : GOK σ (inComp cx x sc) := by
  refine ⟨hG.fn, hG.bi, fun y i h => ?_⟩
  rcases inComp_ix h with ⟨_, rfl⟩ | ⟨_, h⟩
  · exact Nat.lt_succ_self _
  · exact Nat.lt_succ_of_lt (hG.wf _ _ (isVar_mem h).2)
theorem Rel.cell_of (S : Rel σ r cx cs ρ L m Fs M X s) (V : EnvIs env L cx.ns cs) {y : PySem.Str} {w : Value} (hy : cx.ns.lookup y = some .cell) (h : Holds cx.ns cs m M y w) : ∃ c, cs.lookup y = some c ∧ (c, CellP (some w)) ∈ M := by
  rcases h with ⟨h1, _⟩ | ⟨_, h⟩
  · have a := V.look _ h1
    have b := V.look _ (mem_of_lookup hy)
    rw [a] at b; cases b
  · exact h
theorem Rel.comp (hc : compOk cx x sc = true) (V : EnvIs env L cx.ns cs) (hG : GOK σ cx) (S : Rel σ r cx cs ρ L m Fs M X s) (hcl : ∀ q ∈ cl, cs.lookup q.1 = some q.2) (hcf : ∀ y, (y, NameKind.free) ∈ sc.names → ∃ c, (y, c) ∈ cl)
    (S' : St σ C [(x, some (some v))] ((L, m) :: Fs) M' X' s') (hM : ∀ q ∈ M, q ∈ M') (hX : Sub X X') (hv : Rep σ r X' p v) : Rel σ r (inComp cx x sc) cl (ρ ++ [.v p]) C [(x, some (some v))] ((L, m) :: Fs) M' X' s' := by
  obtain ⟨h1, h2, h3, h4, h5, h6, h7⟩ := compOk_says hc
  refine ⟨S', fun a h => hM _ (S.row a h), fun y i b hi hb hne => ?_, fun y hy => ?_, by rw [List.length_append, S.len]; rfl⟩
  · obtain ⟨_, hix⟩ := isVar_mem hi
    rcases inComp_ix hix with ⟨rfl, rfl⟩ | ⟨hf, hv'⟩
    · rw [← S.len, List.getElem?_append_right (Nat.le_refl _), Nat.sub_self] at hb
      simp at hb
      subst hb
      exact ⟨v, .inl ⟨h5, .head _⟩, hv⟩
    · have hlt := hG.wf _ _ (isVar_mem hv').2
      rw [List.getElem?_append_left (by rw [S.len]; exact hlt)] at hb
      obtain ⟨w, q1, q2⟩ := S.val y i b hv' hb hne
      have hcell := free_cell h1 hf
      obtain ⟨c, e1, e2⟩ := S.cell_of V hcell q1
      obtain ⟨c', hc'⟩ := hcf y hf
      refine ⟨w, .inr ⟨.inl ?_, c, by rw [lookup_of_all hcl hc', e1], hM _ e2⟩, ?_⟩
      · unfold inComp asCells
        exact List.mem_map.mpr ⟨(y, .free), hf, rfl⟩
      · exact q2.mono hX (fun p hp _ => hM p hp) fun _ h => h
  · have : (y, NameKind.free) ∈ sc.names := by
      unfold inComp asCells at hy
      obtain ⟨⟨z, kd⟩, hz, e⟩ := List.mem_map.mp hy
      cases kd <;> simp at e
      · exact absurd rfl (h6 _ hz)
      · subst e; exact hz
    obtain ⟨c, hc⟩ := hcf y this
    exact ⟨c, by rw [lookup_of_all hcl hc]; exact hcl _ hc⟩
/-- a frame goes, whatever became of its dict -/
theorem St.popBut (S : St σ C mC ((L, m) :: Fs) M X s) {h' : Heap} (hs : Heap.SameBut C s.heap h') : St σ L m Fs M X { s with heap := h' } := by
  have D := S.pop
  have hne : ∀ b ∈ L :: (Fs.map (·.1) ++ M.map (·.1)), b ≠ C := fun b hb e => (List.nodup_cons.mp S.nd).1 (by rw [← e]; exact hb)
  have hk : ∀ b o, b ≠ C → s.heap.get? b = some o → h'.get? b = some o := fun b o hb e => (hs.2 b hb).trans e
  have hC := S.new C (.head _)
  refine ⟨S.ok, S.gens, S.drawn, S.os, fun b o e => hk b o (fun q => by rw [q, hC.1] at e; cases e) (S.W b o e), D.cur.keeps fun o e => hk _ o (hne _ (.head _)) e,
    fun p hp => (D.fs p hp).keeps fun o e => hk _ o (hne _ (.tail _ (List.mem_append_left _ (List.mem_map.mpr ⟨p, hp, rfl⟩)))) e, fun p hp => ?_, fun p hp => hk _ _ (hC.2 p hp) (S.fz p hp), D.nd, D.new⟩
  obtain ⟨o, x, y⟩ := D.own p hp
  exact ⟨o, hk _ _ (hne _ (.tail _ (List.mem_append_right _ (List.mem_map.mpr ⟨p, hp, rfl⟩)))) x, y⟩
theorem set_plain' {it : Expr} (h : ∀ a b c, it ≠ .Set a b c) (env : Env) : ∀ x, foldedSetIterable it env x = pure x := by
  intro x
  unfold foldedSetIterable
  split
  · exact absurd rfl (h _ _ _)
  · rfl
theorem Rm.more {as : List Addr} (R : Rm A k as) (a : Addr) : Rm A k (a :: as) := R.le (Nat.le_refl _) fun _ h => .tail _ h
/-- the tests of a comprehension -/
theorem tests_ok {Q : Bool → Prop} {Q' : Bool → Shared → Prop} {ifs : List Expr} (it : TvOK σ n) (hl : ifs.length ≤ 1) (hG : GOK σ cx) (V : EnvIs env L cx.ns cs) (hR : Rm A k (L :: Fs.map (·.1))) (S : Rel σ r cx cs ρ L m Fs M X s)
    (hw : wpO (Ct σ) k ρ (ifs.head?.map (compE n cx)) Q fun _ => False) (H : ∀ b s' X', Sub X X' → Rel σ r cx cs ρ L m Fs M X' s' → Q b → Q' b s') :
    wpAny σ.M A (forIn ifs true fun c r => if r = true then do let ok ← isTrue c env (eval c env); pure (ForInStep.yield ok) else pure (ForInStep.yield r)) Q' E s := by
  match ifs, hl with
  | [], _ =>
    have hw : Q true := hw
    exact wpAny_pure (H _ _ _ (Sub.refl X) S hw)
  | [c], _ =>
    have hw : wpT (Ct σ) k ρ (compE n cx c) Q (fun _ => False) := hw
    rw [List.forIn_cons]
    simp only [if_true]
    refine wpAny_bind (wpAny_bind (it hG V hR S hw (fun b s' X' hX S' hb => wpAny_pure ?_) fun v msg s' X' _ _ hm => hm.elim))
    exact wpAny_pure (H _ _ _ hX S' hb)
theorem LcJ {body : PV → (Option PV → Prop) → Prop} {l : List PV} {i : Nat} {q : PV} {acc : List PV} {Qf : List PV → Prop} (hq : l[i]? = some q) (hw : wpLc body (l.drop i) acc Qf) :
    body q fun o => match o with | some y => wpLc body (l.drop (i + 1)) (acc ++ [y]) Qf | none => wpLc body (l.drop (i + 1)) acc Qf := by
  obtain ⟨h1, h2⟩ := List.getElem?_eq_some_iff.mp hq
  rw [List.drop_eq_getElem_cons h1, h2] at hw
  exact hw
end
/-- the loop of a list comprehension, whatever is done with the list -/
theorem lc_core {σ : Sig} {n : Nat} (ih : EvOK σ n) (itv : TvOK σ n) {r : Option Addr} {cx : Cx} {cs cl : List (PySem.Str × Addr)} {k : Nat} {ρ : List Bd} {L : Addr} {m : Know} {Fs : List (Addr × Know)} {M : Mut} {X X₀ : Led} {s : Shared} {env : Env} {A : Around} {E : Value → Shared → Prop}
    {elt it : Expr} {x : PySem.Str} {px pos : Pos} {ifs : List Expr} {sc : Scope} {l : List PV} {a : Addr} {P : Nat → Obj → Prop} {Vp : Nat → Value → Prop} {use : Option (Value → Sem Unit)} {Q' : Value → Shared → Prop} {Qf : List PV → Prop}
    (hG : GOK σ cx) (V : EnvIs env L cx.ns cs) (hR : Rm A k (L :: Fs.map (·.1))) (hc : compOk cx x sc = true) (hif : ifs.length ≤ 1) (h1 : ∀ q ∈ cl, cs.lookup q.1 = some q.2) (h2 : ∀ y, (y, NameKind.free) ∈ sc.names → ∃ c, (y, c) ∈ cl)
    (S : Rel σ r cx cs ρ L m Fs M X s) {s2 : Shared} (W : IterOk σ X₀ l.length P Vp) (hX0 : Sub X₀ X) (S2 : St σ L m Fs ((a, P 0) :: M) X s2) (hval : ∀ (i : Nat) w X', i < l.length → Vp i w → Sub X X' → ∃ q, l[i]? = some q ∧ Rep σ r X' q w) (hlen : l.length ≤ 2 ^ 20)
    (hw : wpLc (fun v K => wpO (Ct σ) k (ρ ++ [.v v]) (ifs.head?.map (compE n (inComp cx x sc))) (fun t => (t = true → wpE (Ct σ) k (ρ ++ [.v v]) (compE n (inComp cx x sc) elt) (fun y => K (some y)) fun _ => False) ∧ (t = false → K none)) fun _ => False) l [] Qf)
    (fin : ∀ ys acc ps X' s' C, Sub X X' → (∀ h', Heap.SameBut C s'.heap h' → St σ L m Fs ((acc, LsP ys) :: M) X' { s' with heap := h' }) → Reps σ r X' ps ys → Qf ps → (∃ mC, St σ C mC ((L, m) :: Fs) ((acc, LsP ys) :: M) X' s') → compPost σ.M A E use Q' (.ref acc) C (.ok .next) s') :
    CompAt σ A env (.ListComp elt [⟨.Name x px, it, ifs, 0⟩] sc pos) sc cl E use Q' (.ref a) s2 := by
  have hsl : sizeLine = 16777216 := sizeLine_eq
  obtain ⟨c1, c2, c3, c4, c5, c6, c7⟩ := compOk_says hc
  refine comp_loop V c1 c3 c4 c5 (fun i ys X2 => ∃ ps, Reps σ r X2 ps ys ∧ Sub X X2 ∧ wpLc _ (l.drop i) ps Qf) W hR.hd (by omega) S2 hX0 ⟨[], .nil, Sub.refl X, by simpa using hw⟩ ?_ ?_ c6 c7
  · intro i w ys X2 C cenv acc s3 hi hw hJ hX V' S3
    obtain ⟨ps, hps, hsub, hwp⟩ := hJ
    obtain ⟨q, hq, hrep⟩ := hval i w X2 hi hw hsub
    have hb := LcJ hq hwp
    have R3 := S.comp hc V hG h1 h2 S3 (fun q hq => .tail _ (.tail _ hq)) hsub hrep
    have hR' : Rm A k (C :: ((L, m) :: Fs).map (·.1)) := hR.more C
    refine tests_ok itv hif hG.comp V' hR' R3 hb fun b s4 X4 hX4 S4 hb => ?_
    cases b with
    | true =>
      rw [if_pos rfl]
      refine ih hG.comp V' hR' S4 (hb.1 rfl) (fun y p s5 X5 hX5 S5 hy hp => ?_) fun v msg s' X' _ _ hm => hm.elim
      exact ⟨_, X5, S5.st, rfl, fun p hp => hX5 _ (hX4 _ (hX _ hp)), ps ++ [p], (hps.mono (hX4.trans hX5)).snoc hy, hsub.trans (hX4.trans hX5), hp⟩
    | false =>
      rw [if_neg (by decide)]
      exact ⟨_, X4, S4.st, rfl, fun p hp => hX4 _ (hX _ hp), ps, hps.mono hX4, hsub.trans hX4, hb.2 rfl⟩
  · intro ys X2 C acc s3 mC hJ hX S3
    obtain ⟨ps, hps, hsub, hwp⟩ := hJ
    rw [List.drop_length] at hwp
    exact fin ys acc ps X2 s3 C hsub (fun h' hs => S3.popBut hs) hps hwp ⟨mC, S3⟩
theorem lc_ok {σ : Sig} {n : Nat} (ih : EvOK σ n) (itv : TvOK σ n) {r : Option Addr} {cx : Cx} {cs : List (PySem.Str × Addr)} {k : Nat} {ρ : List Bd} {L : Addr} {m : Know} {Fs : List (Addr × Know)} {M : Mut} {X : Led} {s : Shared} {env : Env} {A : Around} {E : Value → Shared → Prop}
    {Q : PV → Prop} {R : PySem.Str → Prop} {Q' : Value → Shared → Prop} {elt it : Expr} {x : PySem.Str} {px pos : Pos} {ifs : List Expr} {sc : Scope} (hG : GOK σ cx) (V : EnvIs env L cx.ns cs) (hR : Rm A k (L :: Fs.map (·.1))) (S : Rel σ r cx cs ρ L m Fs M X s) (hc : compOk cx x sc = true) (hif : ifs.length ≤ 1)
    (hw : wpE (Ct σ) k ρ (.lc cx.d (compE n (inComp cx x sc) elt) (compE n cx it) (ifs.head?.map (compE n (inComp cx x sc)))) Q R) (H : PostE σ r cx cs ρ L m Fs M X Q Q') (HX : PostX σ L m Fs M X R E) : wpAny σ.M A (eval (.ListComp elt [⟨.Name x px, it, ifs, 0⟩] sc pos) env) Q' E s := by
  obtain ⟨c1, c2, c3, c4, c5, c6, c7⟩ := compOk_says hc
  obtain ⟨hd, hw⟩ := wr_lc hw
  obtain ⟨cl, e1, e2, _, e4⟩ := clList_ok (cs := cs) sc.names [] (fun _ h => nomatch h) fun y hy => S.cl y (mem_of_lookup (free_cell c1 hy))
  refine r_comp V e1 c2 (ih hG V hR S hw (fun v p s1 X1 hX1 S1 hv h1 => ?_) HX) (set_plain' (fun a b c e => ?_) env) c7
  · obtain ⟨l, hl, h1⟩ := h1
    refine s_iter S1.st hv hl fun a P Vp X₀ s2 W hX0 S2 hval => ?_
    refine lc_core ih itv hG V hR hc hif e2 e4 S1 W hX0 S2 hval h1.1 h1.2 fun ys acc ps X' s' C hX' hst hps hq ⟨mC, S3⟩ => ?_
    obtain ⟨_, mm, hns, _⟩ := S3.cur
    refine ⟨mm, hns, fun h' hs => ?_⟩
    obtain ⟨o, ⟨n', rfl⟩, S5⟩ := (hst h' hs).freeze
    exact H _ _ _ _ (hX1.trans (hX'.trans (Sub.cons _ _))) (S1.grow (hX'.trans (Sub.cons _ _)) S5) (repL (.head _) (hps.mono (Sub.cons _ _))) hq
  · subst e
    cases n <;> exact wr_bad hw
end Mine

end
section
open PySem PySem.W PySem.Calls PyProof.Rows PySem.Spec
set_option Elab.async false
set_option maxRecDepth 100000
set_option linter.unusedVariables false
namespace Mine
section
variable {σ : Sig} {r : Option Addr} {X : Led}
theorem putP_miss : ∀ (ks : List PySem.Str) (l : List PV) (k : PySem.Str) (p : PV), k ∉ ks → ks.length = l.length → putP ks l k p = (ks ++ [k], l ++ [p])
  | [], [], k, p, _, _ => rfl
  | a :: ks, q :: l, k, p, h, hl => by
    have ha : a ≠ k := fun e => h (by rw [e]; exact .head _)
    simp only [pt_c, if_neg ha, putP_miss ks l k p (fun q => h (.tail _ q)) (by simpa using hl)]
    rfl
theorem putP_hit : ∀ (ks : List PySem.Str) (l : List PV) (k : PySem.Str) (p : PV), k ∈ ks → ks.Nodup → ks.length = l.length → ∃ i, ks[i]? = some k ∧ putP ks l k p = (ks, l.set i p)
  | a :: ks, q :: l, k, p, h, hn, hl => by
    by_cases ha : a = k
    · exact ⟨0, by simp [ha], if_pos ha⟩
    · have h' : k ∈ ks := by
        rcases List.mem_cons.mp h with e | h
        · exact absurd e.symm ha
        · exact h
      obtain ⟨i, h1, h2⟩ := putP_hit ks l k p h' (List.nodup_cons.mp hn).2 (by simpa using hl)
      exact ⟨i + 1, by simpa using h1, by rw [pt_c, if_neg ha, h2]; rfl⟩
theorem zip_fst {α β : Type} : ∀ {ks : List α} {vs : List β}, ks.length = vs.length → (ks.zip vs).map (·.1) = ks
  | [], [], _ => rfl
  | a :: ks, b :: vs, h => by simp only [List.zip_cons_cons, List.map_cons, zip_fst (ks := ks) (vs := vs) (by simpa using h)]
theorem stored_zip_miss {K : Type} [DecidableEq K] {ks : List K} {vs : List Value} {k : K} {v : Value} (hl : ks.length = vs.length) (h : k ∉ ks) : stored (ks.zip vs) k v = (ks ++ [k]).zip (vs ++ [v]) := by
  have hz := zip_fst (vs := vs) hl
  unfold stored
  rw [if_neg]
  · rw [List.zip_append hl]; rfl
  · intro hany
    obtain ⟨⟨a, b⟩, hm, e⟩ := List.any_eq_true.mp hany
    have : a ∈ ks := by rw [← hz]; exact List.mem_map.mpr ⟨_, hm, rfl⟩
    simp at e
    subst e
    exact h this
theorem map_set_zip {K : Type} [DecidableEq K] {k : K} {v : Value} : ∀ (ks : List K) (vs : List Value) (i : Nat), ks.length = vs.length → ks.Nodup → ks[i]? = some k → ((ks.zip vs).map fun kv => if kv.1 = k then (kv.1, v) else kv) = ks.zip (vs.set i v)
  | a :: ks, b :: vs, 0, hl, hn, h => by
    simp at h; subst h
    simp only [List.zip_cons_cons, List.map_cons, if_true, List.set_cons_zero]
    rw [map_store_of_not_mem _ _ _ (by rw [zip_fst (by simpa using hl)]; exact (List.nodup_cons.mp hn).1)]
  | a :: ks, b :: vs, i + 1, hl, hn, h => by
    simp at h
    have hne : a ≠ k := fun e => (List.nodup_cons.mp hn).1 (by rw [e]; exact List.mem_of_getElem? h)
    simp only [List.zip_cons_cons, List.map_cons, if_neg hne, List.set_cons_succ]
    rw [map_set_zip ks vs i (by simpa using hl) (List.nodup_cons.mp hn).2 h]
theorem stored_zip_hit {K : Type} [DecidableEq K] {ks : List K} {vs : List Value} {k : K} {v : Value} {i : Nat} (hl : ks.length = vs.length) (hn : ks.Nodup) (h : ks[i]? = some k) : stored (ks.zip vs) k v = ks.zip (vs.set i v) := by
  unfold stored
  rw [if_pos]
  · exact map_set_zip ks vs i hl hn h
  · obtain ⟨h1, h2⟩ := List.getElem?_eq_some_iff.mp h
    rw [List.any_eq_true]
    refine ⟨(ks.zip vs)[i]'(by simp; omega), List.getElem_mem _, ?_⟩
    simp [h2]
theorem stored_zip {ks : List PySem.Str} {l : List PV} {vs : List Value} {k : PySem.Str} {p : PV} {v : Value} (hl : ks.length = vs.length) (hn : ks.Nodup) (h : Reps σ r X l vs) (hp : Rep σ r X p v) :
    ∃ vs', stored (ks.zip vs) k v = (putP ks l k p).1.zip vs' ∧ (putP ks l k p).1.length = vs'.length ∧ Reps σ r X (putP ks l k p).2 vs' := by
  have hll : ks.length = l.length := by rw [hl, h.length]
  by_cases hk : k ∈ ks
  · obtain ⟨i, h1, h2⟩ := putP_hit ks l k p hk hn hll
    rw [h2]
    exact ⟨vs.set i v, stored_zip_hit hl hn h1, by simpa using hl, h.put hp⟩
  · rw [putP_miss ks l k p hk hll]
    exact ⟨vs ++ [v], stored_zip_miss hl hk, by simp [hl], h.snoc hp⟩
end
end Mine

end
section
open PySem PySem.W PySem.Calls PyProof.Rows PySem.Spec
set_option Elab.async false
set_option maxRecDepth 100000
set_option linter.unusedVariables false
namespace Mine
theorem DcJ {key val : PV → (PV → Prop) → Prop} {l : List PV} {i : Nat} {q : PV} {acc : List PySem.Str × List PV} {Qf : List PySem.Str × List PV → Prop} (hq : l[i]? = some q) (hw : wpDc key val (l.drop i) acc Qf) :
    key q fun k => match k with | .str x => val q fun y => wpDc key val (l.drop (i + 1)) (putP acc.1 acc.2 x y) Qf | _ => False := by
  obtain ⟨h1, h2⟩ := List.getElem?_eq_some_iff.mp hq
  rw [List.drop_eq_getElem_cons h1, h2] at hw
  exact hw
theorem put_le {ks : List PySem.Str} {ps : List PV} {y : PySem.Str} {p : PV} {i : Nat} (hl : ks.length = ps.length) (hn : ks.Nodup) (hi : ks.length ≤ i) : (putP ks ps y p).1.length ≤ i + 1 := by
  by_cases hk : y ∈ ks
  · obtain ⟨_, _, h2⟩ := putP_hit ks ps y p hk hn hl
    rw [h2]; exact Nat.le_succ_of_le hi
  · rw [putP_miss ks ps y p hk hl, List.length_append]; exact Nat.succ_le_succ hi
inductive DcInv (σ : Sig) (r : Option Addr) (x : PySem.Str) (l : List PV) (a : Addr) (P : Nat → Obj → Prop) (Fk Fv : PV → (PV → Prop) → Prop) (Qf : List PySem.Str × List PV → Prop) (Fs : List (Addr × Know)) (M : Mut) (C acc : Addr) (X1 : Led) (j : Nat) (s : Shared) : Prop
  | mk (i : Nat) (o : Option (Option Value)) (ks : List PySem.Str) (ps : List PV) (vs : List Value) (X2 : Led) (hj : i + j = l.length) (hX : Sub X1 X2) (hkv : ks.length = vs.length) (hps : Reps σ r X2 ps vs) (hwd : wpDc Fk Fv (l.drop i) (ks, ps) Qf) (hki : ks.length ≤ i)
    (S : St σ C [(x, o)] Fs ((acc, fun o => o.IsDictOf (strK σ) (ks.zip vs)) :: (a, P i) :: M) X2 s) : DcInv σ r x l a P Fk Fv Qf Fs M C acc X1 j s
theorem dc_core {σ : Sig} {n : Nat} (ih : EvOK σ n) {r : Option Addr} {cx : Cx} {cs cl : List (PySem.Str × Addr)} {k : Nat} {ρ : List Bd} {L : Addr} {m : Know} {Fs : List (Addr × Know)} {M : Mut} {X1 X₀ : Led} {s1 : Shared} {env : Env} {A : Around} {E : Value → Shared → Prop}
    {key val it : Expr} {x : PySem.Str} {px pos : Pos} {sc : Scope} {l : List PV} {a : Addr} {P : Nat → Obj → Prop} {Vp : Nat → Value → Prop} {use : Option (Value → Sem Unit)} {Q' : Value → Shared → Prop} {Fk Fv : PV → (PV → Prop) → Prop} {Qf : List PySem.Str × List PV → Prop}
    (hG : GOK σ cx) (V : EnvIs env L cx.ns cs) (hR : Rm A k (L :: Fs.map (·.1))) (hc : compOk cx x sc = true) (e2 : ∀ q ∈ cl, cs.lookup q.1 = some q.2) (e4 : ∀ y, (y, NameKind.free) ∈ sc.names → ∃ c, (y, c) ∈ cl)
    (S1 : Rel σ r cx cs ρ L m Fs M X1 s1) {s2 : Shared} (W : IterOk σ X₀ l.length P Vp) (hX0 : Sub X₀ X1) (S2 : St σ L m Fs ((a, P 0) :: M) X1 s2) (hval : ∀ (i : Nat) w X', i < l.length → Vp i w → Sub X1 X' → ∃ q, l[i]? = some q ∧ Rep σ r X' q w) (hlen : l.length ≤ 100)
    (hFk : ∀ v K, Fk v K → wpE (Ct σ) k (ρ ++ [.v v]) (compE n (inComp cx x sc) key) K fun _ => False) (hFv : ∀ v K, Fv v K → wpE (Ct σ) k (ρ ++ [.v v]) (compE n (inComp cx x sc) val) K fun _ => False) (hwp : wpDc Fk Fv l ([], []) Qf)
    (fin : ∀ (ks : List PySem.Str) (ps : List PV) (vs : List Value) (acc : Addr) (X' : Led) (s' : Shared) (C : Addr) (mC : Know), Sub X1 X' → (acc == sysModules) = false → ks.length = vs.length → Reps σ r X' ps vs → Qf (ks, ps) → St σ C mC ((L, m) :: Fs) ((acc, fun o => o.IsDictOf (strK σ) (ks.zip vs)) :: M) X' s' → compPost σ.M A E use Q' (.ref acc) C (.ok .next) s') :
    wpAny σ.M A newDict (fun acc s₃ => wpAny σ.M A (newFunctionEnv sc env.globals cl [] env.qual none .none (some env)) (fun cenv s₄ =>
        codeAny σ.M A (.compStart (.DictComp key val [⟨.Name x px, it, [], 0⟩] sc pos) 0 (.ref a) acc { cenv with scope := relabel sc env }) (compPost σ.M A E use Q' acc cenv.locals) s₄) E s₃) E s2 := by
  obtain ⟨c1, c2, c3, c4, c5, c6, c7⟩ := compOk_says hc
  refine wpAny_bind (wpAny_alloc (wpAny_pure ?_))
  have hsm := S2.sm
  have S3 := S2.pushM (P := fun o => o.IsDictOf (strK σ) ([].zip [])) (o := { cls := .type "dict", data := .dict #[] }) d_empty
  generalize s2.heap.objs.size = acc at S3 hsm
  refine wpAny_newFunctionEnv c6 (fun y hy => nomatch hy) (fun h' hns hsb => ?_) c7
  have S4 := (S3.grow (s' := { s2 with heap := h', toks := s2.toks + 0 }) fun b o e => hsb.extBut b o (Nat.ne_of_lt (Heap.lt_size e)) (Heap.get?_push_of_some _ e)).enter (m' := [(x, none)])
    ⟨by simp, _, hns, fun p hp o ho => by
      rcases List.mem_cons.mp hp with rfl | hp
      · cases ho
      · cases hp⟩ S3.fresh S3.freshW S3.freshX
  generalize (s2.heap.push { cls := .type "dict", data := .dict #[] }).objs.size = C at S4
  clear hsb hns S3 S2
  have Vc : EnvIs (compEnvC sc cl C env) C (inComp cx x sc).ns cl := by
    refine ⟨rfl, c7, V.glob, V.bui, rfl, fun p hp => ?_, oddNames.says c4⟩
    show (relabel sc env).names.lookup p.1 = some p.2
    rw [relabel_names V c1]
    exact lookNames.says c3 p hp
  have hR' : Rm A k (C :: ((L, m) :: Fs).map (·.1)) := hR.more C
  have l0 : codeAny σ.M A (.compLoop (.DictComp key val [⟨.Name x px, it, [], 0⟩] sc pos) 0 (.ref a) (.ref acc) (compEnvC sc cl C env)) (compPost σ.M A E use Q' (.ref acc) C) { s2 with heap := h', toks := s2.toks + 0 } := by
    refine codeAny_compLoop_testsD (DcInv σ r x l a P Fk Fv Qf ((L, m) :: Fs) M C acc X1) (fun j s hI => ?_) l.length (.mk 0 none [] [] [] X1 (Nat.zero_add _) (Sub.refl _) rfl .nil hwp (Nat.le_refl _) S4) (by intro _; rfl)
    clear hwp S4
    cases hI with
    | mk i o ks ps vs X2 hj hX hkv hps hwd hki S' =>
      have Sp := S'.permM (List.Perm.swap (a, P i) (acc, _) M)
      clear S'
      by_cases hi : i < l.length
      · refine W.item hi (fun p hp => hX _ (hX0 _ hp)) Sp fun w s' hw Sv => ?_
        have Sv := Sv.permM (List.Perm.swap (acc, _) (a, P (i + 1)) M)
        obtain ⟨q, hq, hrep⟩ := hval i w X2 hi hw hX
        have hb := DcJ hq hwd
        refine wpAny_absurd (wpAny_assign_Name (r_store Sv Vc c5 .hit fun s₂ S₂ => ?_))
        have R3 := S1.comp hc V hG e2 e4 S₂ (fun q hq => .tail _ (.tail _ hq)) hX hrep
        refine wpAny_pure ?_
        rw [if_pos rfl]
        refine wpAny_absurd (ih hG.comp Vc hR' R3 (hFk _ _ hb) (fun kv kp s4 X4 hX4 S4 hk hb => ?_) fun v msg s' X' _ _ hm => hm.elim)
        clear Sp Sv hwd hq hrep R3 S₂
        cases kp with
        | str y =>
          refine rep_str hk fun t => ?_
          refine wpAny_absurd (ih hG.comp Vc hR' S4 (hFv _ _ hb) (fun vv vp s5 X5 hX5 S5 hvv hb => ?_) fun v msg s' X' _ _ hm => hm.elim)
          have S5 := S5.st
          have hn : ks.Nodup := by
            obtain ⟨o, _, hdo⟩ := S5.own _ (.head _)
            obtain ⟨_, _, _, _, _, _, h⟩ := hdo
            rwa [zip_fst hkv] at h
          obtain ⟨vs', z1, z2, z3⟩ := stored_zip (k := y) hkv hn (hps.mono (hX4.trans hX5)) hvv
          refine wpAny_absurd (wpAny_dictSet_pairs (knd := strK σ) (kvs := ks.zip vs) (strKind_is _ _ _ _) (S5.dictM (.head _)) (fun h' hd hs => ?_) (by rw [List.length_zip, ← hkv, Nat.min_self, sizeLine_eq]; omega))
          obtain ⟨o, ho, hdo⟩ := Heap.dictOf_iff.mp hd
          rw [z1] at hdo
          have S6 := S5.setMut (P' := fun o => o.IsDictOf (strK σ) ((putP ks ps y vp).1.zip vs')) (s' := { s5 with heap := h', toks := s5.toks + 1 }) .head (fun b ob hb e => (hs.2 b hb).trans e) ⟨o, ho, hdo⟩
          exact ⟨j - 1, by omega, .mk (i + 1) _ _ _ vs' X5 (by omega) (hX.trans (hX4.trans hX5)) z2 z3 hb (put_le (hkv.trans hps.length.symm) hn hki) S6⟩
        | _ => exact False.elim hb
      · have e : i = l.length := by omega
        subst e
        refine W.fin hR.hd (fun p hp => hX _ (hX0 _ hp)) Sp fun s' Sd => ?_
        rw [List.drop_length] at hwd
        exact fin ks ps vs acc X2 s' C _ hX hsm hkv hps hwd Sd
  exact codeAny_compStart_dict l0 (W.self (S4.permM (List.Perm.swap (a, P 0) (acc, _) M)) l0)
theorem dc_ok {σ : Sig} {n : Nat} (ih : EvOK σ n) {r : Option Addr} {cx : Cx} {cs : List (PySem.Str × Addr)} {k : Nat} {ρ : List Bd} {L : Addr} {m : Know} {Fs : List (Addr × Know)} {M : Mut} {X : Led} {s : Shared} {env : Env} {A : Around} {E : Value → Shared → Prop}
    {Q : PV → Prop} {R : PySem.Str → Prop} {Q' : Value → Shared → Prop} {key val it : Expr} {x : PySem.Str} {px pos : Pos} {sc : Scope} (hG : GOK σ cx) (V : EnvIs env L cx.ns cs) (hR : Rm A k (L :: Fs.map (·.1))) (S : Rel σ r cx cs ρ L m Fs M X s) (hc : compOk cx x sc = true)
    (hw : wpE (Ct σ) k ρ (.dc cx.d (compE n (inComp cx x sc) key) (compE n (inComp cx x sc) val) (compE n cx it)) Q R) (H : PostE σ r cx cs ρ L m Fs M X Q Q') (HX : PostX σ L m Fs M X R E) : wpAny σ.M A (eval (.DictComp key val [⟨.Name x px, it, [], 0⟩] sc pos) env) Q' E s := by
  have hsl : sizeLine = 16777216 := sizeLine_eq
  obtain ⟨c1, c2, c3, c4, c5, c6, c7⟩ := compOk_says hc
  obtain ⟨hd, hw⟩ := wr_dc hw
  obtain ⟨cl, e1, e2, _, e4⟩ := clList_ok (cs := cs) sc.names [] (fun _ h => nomatch h) fun y hy => S.cl y (mem_of_lookup (free_cell c1 hy))
  rw [arm_eval_DictComp]
  refine wpAny_comprehension_free (use := none) rfl (set_plain' (fun a b c e => ?_) env) (closure_of (by rw [V.cells]; exact e1)) c7 (fun y hy hl => hl ▸ lookNames.says c2 y hy) (ih hG V hR S hw (fun v p s1 X1 hX1 S1 hv h1 => ?_) HX)
  · subst e
    cases n <;> exact wr_bad hw
  · obtain ⟨l, hl, h1⟩ := h1
    refine s_iter S1.st hv hl fun a P Vp X₀ s2 W hX0 S2 hval => ?_
    refine dc_core ih hG V hR hc e2 e4 S1 W hX0 S2 hval h1.1 (fun _ _ h => h) (fun _ _ h => h) h1.2 fun ks ps vs acc X' s' C mC hX hsm hkv hps hwd Sd => ?_
    obtain ⟨_, mm, hns, _⟩ := Sd.cur
    refine ⟨mm, hns, fun h' hs => ?_⟩
    obtain ⟨o, hdo, S5⟩ := (Sd.popBut hs).freeze
    refine H (.ref acc) (.sd ks ps) _ ((acc, o) :: X') (hX1.trans (hX.trans (Sub.cons _ _))) (S1.grow (hX.trans (Sub.cons _ _)) S5) ?_ hwd
    exact repSd (.head _) hsm hkv hdo (hps.mono (Sub.cons _ _))
end Mine

end
section
open PySem PySem.W PySem.Calls PyProof.Rows PySem.Spec
set_option Elab.async false
set_option maxRecDepth 100000
set_option linter.unusedVariables false
namespace Mine
theorem more_ok {σ : Sig} {n : Nat} (ih : EvOK σ n) (it : TvOK σ n) : More σ n :=
  ⟨fun hG V hR S hc hi hw H HX => lc_ok ih it hG V hR S hc hi hw H HX, fun hG V hR S hc hw H HX => dc_ok ih hG V hR S hc hw H HX⟩
theorem ev_zero {σ : Sig} : EvOK σ 0 := by
  intro r cx cs k ρ L m Fs M X s env A E e Q R Q' hG V hR S hw H HX
  exact wr_bad hw
theorem tv_zero {σ : Sig} : TvOK σ 0 := by
  intro r cx cs k ρ L m Fs M X s env A E e Q R Q' hG V hR S hw H HX
  exact wt_bad hw
theorem ok_all {σ : Sig} (hK : KOK σ.K) : ∀ n, EvOK σ n ∧ TvOK σ n
  | 0 => ⟨ev_zero, tv_zero⟩
  | n + 1 =>
    let ih := ok_all hK n
    let e : EvOK σ (n + 1) := ev_step hK ih.1 ih.2 (more_ok ih.1 ih.2)
    ⟨e, tv_step hK ih.1 ih.2 e⟩
end Mine

end
section
open PySem PySem.W PySem.Calls PyProof.Rows PySem.Spec
set_option Elab.async false
set_option maxRecDepth 100000
set_option linter.unusedVariables false
namespace Mine

theorem Put.ex {x : PySem.Str} {v : Value} : ∀ {m : Know}, x ∈ m.map (·.1) → ∃ m', Put x v m m'
  | (y, o) :: m, h => by
    by_cases e : x = y
    · subst e; exact ⟨_, .hit⟩
    · have : x ∈ m.map (·.1) := by
        rcases List.mem_cons.mp h with h | h
        · exact absurd h e
        · exact h
      obtain ⟨m', p⟩ := Put.ex (v := v) this
      exact ⟨_, .miss p⟩
theorem Put.new {x : PySem.Str} {v : Value} : ∀ {m m' : Know}, Put x v m m' → (x, some (some v)) ∈ m'
  | _, _, .hit => .head _
  | _, _, .miss r => .tail _ r.new
theorem Put.old {x y : PySem.Str} {v : Value} {o : Option (Option Value)} (hne : y ≠ x) : ∀ {m m' : Know}, Put x v m m' → (y, o) ∈ m → (y, o) ∈ m'
  | _, _, .hit, h => by
    rcases List.mem_cons.mp h with h | h
    · cases h; exact absurd rfl hne
    · exact .tail _ h
  | _, _, .miss r, h => by
    rcases List.mem_cons.mp h with h | h
    · exact h ▸ .head _
    · exact .tail _ (r.old hne h)
theorem Ch.old {a : Addr} {P P' : Obj → Prop} {p : Addr × (Obj → Prop)} (hne : p.1 ≠ a) : ∀ {M M' : Mut}, Ch a P P' M M' → p ∈ M → p ∈ M'
  | _, _, .head, h => by
    rcases List.mem_cons.mp h with rfl | h
    · exact absurd rfl hne
    · exact .tail _ h
  | _, _, .tail r, h => by
    rcases List.mem_cons.mp h with rfl | h
    · exact .head _
    · exact .tail _ (r.old hne h)
theorem Ch.new {a : Addr} {P P' : Obj → Prop} {M M' : Mut} (U : Ch a P P' M M') : (a, P') ∈ M' := U.symm.mem
theorem St.mnd {σ : Sig} {L : Addr} {m : Know} {Fs : List (Addr × Know)} {M : Mut} {X : Led} {s : Shared} (S : St σ L m Fs M X s) : (M.map (·.1)).Nodup := (List.nodup_append.mp (List.nodup_cons.mp S.nd).2).2.1
theorem mem_same {M : Mut} (hn : (M.map (·.1)).Nodup) {a : Addr} {P P' : Obj → Prop} (h : (a, P) ∈ M) (h' : (a, P') ∈ M) : P = P' := by
  induction M with
  | nil => cases h
  | cons q r ih =>
    have hq := List.nodup_cons.mp hn
    rcases List.mem_cons.mp h with e | h1
    · rcases List.mem_cons.mp h' with e' | h2
      · rw [← e] at e'; cases e'; rfl
      · exact absurd (List.mem_map.mpr ⟨_, h2, by rw [← e]⟩) hq.1
    · rcases List.mem_cons.mp h' with e' | h2
      · exact absurd (List.mem_map.mpr ⟨_, h1, by rw [← e']⟩) hq.1
      · exact ih hq.2 h1 h2

/-- facts on the names of a def -/
structure CxS (cx : Cx) (cs : List (PySem.Str × Addr)) : Prop where
  iinj : ∀ x y i, isVar cx x = some i → isVar cx y = some i → x = y
  nofree : ∀ x, (x, NameKind.free) ∉ cx.ns
  cinj : ∀ x y c, cs.lookup x = some c → cs.lookup y = some c → x = y
  cl : ∀ y, (y, NameKind.cell) ∈ cx.ns → ∃ c, cs.lookup y = some c
noncomputable def NoCell (P : Obj → Prop) : Prop := ∀ o, P o → ∀ v, o.data ≠ .cell v
structure RelS (σ : Sig) (r : Option Addr) (cx : Cx) (cs : List (PySem.Str × Addr)) (ρ : List Bd) (O : Own) (L : Addr) (m : Know) (Fs : List (Addr × Know)) (M M₀ : Mut) (X : Led) (s : Shared) : Prop where
  st : St σ L m Fs M X s
  row : ∀ a, r = some a → (a, RowO) ∈ M₀
  val : ∀ x i b, isVar cx x = some i → ρ[i]? = some b → b ≠ .u → ∃ v, Holds cx.ns cs m M x v ∧ BRepO σ r X M O i b v
  len : ρ.length = cx.d
  keep : ∀ p ∈ M₀, p ∈ M
  loc : ∀ x, (x, NameKind.local) ∈ cx.ns → x ∈ m.map (·.1)
  cel : ∀ x c, (x, NameKind.cell) ∈ cx.ns → cs.lookup x = some c → (∃ v, (c, CellP v) ∈ M) ∧ c ∉ M₀.map (·.1)
  ond : (O.map (·.2)).Nodup
  oap : ∀ q ∈ O, q.2 ∉ M₀.map (·.1) ∧ ∃ P, (q.2, P) ∈ M ∧ NoCell P

section
variable {σ : Sig} {r : Option Addr} {cx : Cx} {cs : List (PySem.Str × Addr)} {ρ : List Bd} {O : Own} {A : Around} {E : Value → Shared → Prop} {L : Addr} {m : Know} {Fs : List (Addr × Know)} {M M₀ : Mut} {X X' : Led} {s s' : Shared} {env : Env}
theorem RelS.rel (T : CxS cx cs) (S : RelS σ r cx cs ρ O L m Fs M M₀ X s) : Rel σ r cx cs ρ L m Fs M X s :=
  ⟨S.st, fun a h => S.keep _ (S.row a h), fun x i b h1 h2 h3 => let ⟨v, a, c⟩ := S.val x i b h1 h2 h3; ⟨v, a, c.mono (Sub.refl X) (fun _ h _ => h) fun _ _ => trivial⟩, T.cl, S.len⟩
theorem RelS.grow (S : RelS σ r cx cs ρ O L m Fs M M₀ X s) (hs : Sub X X') (S' : St σ L m Fs M X' s') : RelS σ r cx cs ρ O L m Fs M M₀ X' s' :=
  ⟨S', S.row, fun x i b h1 h2 h3 => let ⟨v, a, c⟩ := S.val x i b h1 h2 h3; ⟨v, a, c.mono hs (fun _ h _ => h) fun _ h => h⟩, S.len, S.keep, S.loc, S.cel, S.ond, S.oap⟩
theorem get_set {i j : Nat} {b : Bd} (h : (ρ.set i b)[j]? = some b') : (j = i ∧ b' = b) ∨ (j ≠ i ∧ ρ[j]? = some b') := by
  rw [List.getElem?_set] at h
  split at h
  · split at h
    · cases h; rename_i e _; exact .inl ⟨e.symm, rfl⟩
    · cases h
  · rename_i e; exact .inr ⟨fun q => e q.symm, h⟩
theorem RelS.store {Q : Unit → Shared → Prop} {x : PySem.Str} {i : Nat} {b : Bd} {v : Value} (T : CxS cx cs) (V : EnvIs env L cx.ns cs) (S : RelS σ r cx cs ρ O L m Fs M M₀ X s) (hi : isVar cx x = some i) (hb : BRepO σ r X M O i b v)
    (H : ∀ m' M' s', RelS σ r cx cs (ρ.set i b) O L m' Fs M' M₀ X s' → Q () s') : wpAny σ.M A (storeName env x v) Q E s := by
  obtain ⟨hk, hix⟩ := isVar_mem hi
  have hne : ∀ y j, isVar cx y = some j → j ≠ i → y ≠ x := fun y j h1 h2 e => by subst e; rw [hi] at h1; cases h1; exact h2 rfl
  rcases hk with hk | hk | hk
  · obtain ⟨m', U⟩ := Put.ex (v := v) (S.loc x hk)
    refine r_store S.st V hk U fun s' S' => H m' M s' ⟨S', S.row, fun y j b' h1 h2 h3 => ?_, by rw [List.length_set]; exact S.len, S.keep, fun y hy => by rw [U.names]; exact S.loc y hy, S.cel, S.ond, S.oap⟩
    rcases get_set h2 with ⟨rfl, rfl⟩ | ⟨hj, h2⟩
    · have e := T.iinj _ _ _ h1 hi
      subst e
      exact ⟨v, .inl ⟨hk, U.new⟩, hb⟩
    · obtain ⟨w, a, c⟩ := S.val y j b' h1 h2 h3
      refine ⟨w, ?_, c⟩
      rcases a with ⟨a1, a2⟩ | a
      · exact .inl ⟨a1, U.old (hne y j h1 hj) a2⟩
      · exact .inr a
  · obtain ⟨c, hc⟩ := T.cl x hk
    obtain ⟨⟨v0, hv0⟩, hc0⟩ := S.cel x c hk hc
    obtain ⟨M', U⟩ := Ch.ex (CellP (some v)) hv0
    have hOc : ∀ q ∈ O, q.2 ≠ c := fun q hq e => by
      obtain ⟨_, P, hP, hnc⟩ := S.oap q hq
      rw [e] at hP
      have := mem_same S.st.mnd hP hv0
      subst this
      obtain ⟨o, _, ho⟩ := S.st.own _ hv0
      exact hnc o ho _ ho
    refine r_storeCell S.st V hk hc U fun s' S' => H m M' s' ⟨S', S.row, fun y j b' h1 h2 h3 => ?_, by rw [List.length_set]; exact S.len,
      fun p hp => U.old (fun e => hc0 (List.mem_map.mpr ⟨p, hp, e⟩)) (S.keep p hp), S.loc, fun y d hy hd => ?_, S.ond, fun q hq => ?_⟩
    · rcases get_set h2 with ⟨rfl, rfl⟩ | ⟨hj, h2⟩
      · have e := T.iinj _ _ _ h1 hi
        subst e
        exact ⟨v, .inr ⟨.inl hk, c, hc, U.new⟩, hb.mono (Sub.refl X) (fun p hp hq => U.old (hOc _ hq) hp) fun _ h => h⟩
      · obtain ⟨w, a, c2⟩ := S.val y j b' h1 h2 h3
        refine ⟨w, ?_, c2.mono (Sub.refl X) (fun p hp hq => U.old (hOc _ hq) hp) fun _ h => h⟩
        rcases a with a | ⟨a1, c', a2, a3⟩
        · exact .inl a
        · exact .inr ⟨a1, c', a2, U.old (fun e => by simp only at e; subst e; exact hne y j h1 hj (T.cinj _ _ _ a2 hc)) a3⟩
    · obtain ⟨⟨v1, h1⟩, h2⟩ := S.cel y d hy hd
      refine ⟨?_, h2⟩
      by_cases e : d = c
      · subst e; exact ⟨_, U.new⟩
      · exact ⟨v1, U.old e h1⟩
    · obtain ⟨h1, P, h2, h3⟩ := S.oap q hq
      exact ⟨h1, P, U.old (hOc q hq) h2, h3⟩
  · exact absurd hk (T.nofree x)
end
end Mine

end
section
open PySem PySem.W PySem.Calls PyProof.Rows PySem.Spec
set_option Elab.async false
set_option maxRecDepth 100000
set_option linter.unusedVariables false
namespace Mine
theorem noCell_list {vs : List Value} : NoCell (LsP vs) := by rintro o ⟨n, rfl⟩ v h; cases h
theorem noCell_dict {prog : Program} {w : World} {K : Type} [DecidableEq K] {knd : KeyKind prog w K} {kvs : List (K × Value)} : NoCell (fun o => o.IsDictOf knd kvs) := by
  rintro o ⟨es, ep, _, h, _⟩ v h'; rw [h] at h'; cases h'
theorem noCell_inst {C d : Addr} : NoCell (InstP C d) := by rintro o rfl v h; cases h
theorem noCell_vec {a b c : Value} : NoCell (VecP a b c) := by rintro o ⟨es, n, rfl, _⟩ v h; cases h
section
variable {σ : Sig} {r : Option Addr} {cx : Cx} {cs : List (PySem.Str × Addr)} {ρ : List Bd} {O O' : Own} {A : Around} {E : Value → Shared → Prop} {L : Addr} {m : Know} {Fs : List (Addr × Know)} {M M' M₀ : Mut} {X X' : Led} {s s' : Shared} {env : Env} {i : Nat}
theorem Holds.mono {ns : List (PySem.Str × NameKind)} {x : PySem.Str} {v : Value} (h : Holds ns cs m M x v) (hM : ∀ c w, (c, CellP w) ∈ M → (c, CellP w) ∈ M') : Holds ns cs m M' x v := by
  rcases h with h | ⟨h1, c, h2, h3⟩
  · exact .inl h
  · exact .inr ⟨h1, c, h2, hM _ _ h3⟩
theorem RelS.noTag (S : RelS σ r cx cs ρ O L m Fs M M₀ X s) {c : Addr} {w : Option Value} (h : (c, CellP w) ∈ M) : ∀ q ∈ O, q.2 ≠ c := fun q hq e => by
  obtain ⟨_, P, hP, hnc⟩ := S.oap q hq
  rw [e] at hP
  have := mem_same S.st.mnd hP h
  subst this
  obtain ⟨o, _, ho⟩ := S.st.own _ h
  exact hnc o ho _ ho
theorem own_same (h : (O.map (·.2)).Nodup) {i j : Nat} {a : Addr} (h1 : (i, a) ∈ O) (h2 : (j, a) ∈ O) : i = j := by
  induction O with
  | nil => cases h1
  | cons q r ih =>
    have hq := List.nodup_cons.mp h
    rcases List.mem_cons.mp h1 with e | h1
    · rcases List.mem_cons.mp h2 with e' | h2
      · rw [← e] at e'; cases e'; rfl
      · exact absurd (List.mem_map.mpr ⟨_, h2, by rw [← e]⟩) hq.1
    · rcases List.mem_cons.mp h2 with e' | h2
      · exact absurd (List.mem_map.mpr ⟨_, h1, by rw [← e']⟩) hq.1
      · exact ih hq.2 h1 h2
/-- what is tagged i changes, all else stands -/
theorem RelS.re (S : RelS σ r cx cs ρ O L m Fs M M₀ X s) (i : Nat) (S' : St σ L m Fs M' X' s') (hX : Sub X X') (hM : ∀ p ∈ M, (∀ q ∈ O, q.1 = i → q.2 ≠ p.1) → p ∈ M') (hO : ∀ q ∈ O, q.1 ≠ i → q ∈ O')
    (hO1 : ∀ q ∈ O', q ∈ O ∨ (q.1 = i ∧ q.2 ∉ M.map (·.1))) (hnd : (O'.map (·.2)).Nodup) (hap : ∀ q ∈ O', q.1 = i → ∃ P, (q.2, P) ∈ M' ∧ NoCell P) : RelS σ r cx cs (ρ.set i .u) O' L m Fs M' M₀ X' s' := by
  have hcell : ∀ c w, (c, CellP w) ∈ M → (c, CellP w) ∈ M' := fun c w h => hM _ h fun q hq _ => S.noTag h q hq
  have hk : ∀ p ∈ M₀, p ∈ M' := fun p hp => hM _ (S.keep p hp) fun q hq _ e => (S.oap q hq).1 (by rw [e]; exact List.mem_map.mpr ⟨p, hp, rfl⟩)
  refine ⟨S', S.row, fun y j b h1 h2 h3 => ?_, by rw [List.length_set]; exact S.len, hk, S.loc, fun y c hy hc => ?_, hnd, fun q hq => ?_⟩
  · rcases get_set h2 with ⟨_, rfl⟩ | ⟨hj, h2⟩
    · exact absurd rfl h3
    · obtain ⟨w, h4, h5⟩ := S.val y j b h1 h2 h3
      refine ⟨w, h4.mono hcell, h5.mono hX (fun p hp hq => hM p hp fun q hq' e e2 => ?_) fun a ha => hO _ ha hj⟩
      obtain ⟨q1, q2⟩ := q
      simp only at e e2
      subst e e2
      exact hj (own_same S.ond hq hq')
  · obtain ⟨⟨w, h1⟩, h2⟩ := S.cel y c hy hc
    exact ⟨⟨w, hcell _ _ h1⟩, h2⟩
  · by_cases e : q.1 = i
    · refine ⟨?_, hap q hq e⟩
      rcases hO1 q hq with h | ⟨_, h⟩
      · exact (S.oap q h).1
      · exact fun h' => by
          obtain ⟨p, hp, e⟩ := List.mem_map.mp h'
          exact h (by rw [← e]; exact List.mem_map.mpr ⟨p, S.keep p hp, rfl⟩)
    · rcases hO1 q hq with h | ⟨h, _⟩
      · obtain ⟨h1, P, h2, h3⟩ := S.oap q h
        refine ⟨h1, P, hM _ h2 fun q' hq' e' e2 => e ?_, h3⟩
        obtain ⟨q1, q2⟩ := q
        obtain ⟨q3, q4⟩ := q'
        simp only at e' e2
        subst e' e2
        exact own_same S.ond h hq'
      · exact absurd h e
theorem RelS.bind {x : PySem.Str} {b : Bd} {v : Value} (T : CxS cx cs) (S : RelS σ r cx cs ρ O L m Fs M M₀ X s) (hi : isVar cx x = some i) (hv : Holds cx.ns cs m M x v) (hb : BRepO σ r X M O i b v) : RelS σ r cx cs (ρ.set i b) O L m Fs M M₀ X s := by
  refine ⟨S.st, S.row, fun y j b' h1 h2 h3 => ?_, by rw [List.length_set]; exact S.len, S.keep, S.loc, S.cel, S.ond, S.oap⟩
  rcases get_set h2 with ⟨rfl, rfl⟩ | ⟨hj, h2⟩
  · have e := T.iinj _ _ _ h1 hi
    subst e
    exact ⟨v, hv, hb⟩
  · exact S.val y j b' h1 h2 h3
/-- a fresh object of variable i -/
theorem RelS.push {a : Addr} {P : Obj → Prop} (S : RelS σ r cx cs ρ O L m Fs M M₀ X s) (i : Nat) (S' : St σ L m Fs ((a, P) :: M) X' s') (hX : Sub X X') (hP : NoCell P) : RelS σ r cx cs (ρ.set i .u) ((i, a) :: O) L m Fs ((a, P) :: M) M₀ X' s' := by
  have ha : a ∉ M.map (·.1) := (List.nodup_cons.mp S'.mnd).1
  refine S.re i S' hX (fun p hp _ => .tail _ hp) (fun q hq _ => .tail _ hq) (fun q hq => ?_) ?_ fun q hq e => ?_
  · rcases List.mem_cons.mp hq with rfl | hq
    · exact .inr ⟨rfl, ha⟩
    · exact .inl hq
  · refine List.nodup_cons.mpr ⟨fun h => ?_, S.ond⟩
    obtain ⟨q, hq, e⟩ := List.mem_map.mp h
    obtain ⟨_, P', h2, _⟩ := S.oap q hq
    exact ha (by rw [← show q.2 = a from e]; exact List.mem_map.mpr ⟨_, h2, rfl⟩)
  · rcases List.mem_cons.mp hq with rfl | hq
    · exact ⟨P, .head _, hP⟩
    · obtain ⟨_, P', h2, h3⟩ := S.oap q hq
      exact ⟨P', .tail _ h2, h3⟩
/-- an own object changes -/
theorem RelS.chg {a : Addr} {P P' : Obj → Prop} (S : RelS σ r cx cs ρ O L m Fs M M₀ X s) (hi : (i, a) ∈ O) (U : Ch a P P' M M') (S' : St σ L m Fs M' X' s') (hX : Sub X X') (hP : NoCell P') : RelS σ r cx cs (ρ.set i .u) O L m Fs M' M₀ X' s' := by
  refine S.re i S' hX (fun p hp hq => U.old (fun e => hq _ hi rfl e.symm) hp) (fun q hq _ => hq) (fun q hq => .inl hq) S.ond fun q hq e => ?_
  by_cases h : q.2 = a
  · exact ⟨P', by rw [h]; exact U.new, hP⟩
  · obtain ⟨_, P'', h2, h3⟩ := S.oap q hq
    exact ⟨P'', U.old h h2, h3⟩
/-- an own object is written no more -/
theorem RelS.freeze {a : Addr} {P : Obj → Prop} {C : Prop} (S : RelS σ r cx cs ρ O L m Fs M M₀ X s) (hi : (i, a) ∈ O) (hm : (a, P) ∈ M)
    (K : ∀ o M' O', P o → RelS σ r cx cs (ρ.set i .u) O' L m Fs M' M₀ ((a, o) :: X) s → (∀ p ∈ M, p.1 ≠ a → p ∈ M') → (∀ q ∈ O, q.2 ≠ a → q ∈ O') → C) : C := by
  obtain ⟨l1, l2, rfl⟩ := List.append_of_mem hm
  obtain ⟨o, ho, S2⟩ := (S.st.permM (M' := (a, P) :: (l1 ++ l2)) List.perm_middle).freeze
  have hne : ∀ p ∈ l1 ++ (a, P) :: l2, p.1 ≠ a → p ∈ l1 ++ l2 := fun p hp h => by
    rcases List.mem_append.mp hp with hp | hp
    · exact List.mem_append_left _ hp
    · rcases List.mem_cons.mp hp with rfl | hp
      · exact absurd rfl h
      · exact List.mem_append_right _ hp
  refine K o (l1 ++ l2) (O.filter (fun q => decide (q.2 ≠ a))) ho (S.re i S2 (Sub.cons X _) (fun p hp hq => hne p hp fun e => hq _ hi rfl e.symm) (fun q hq e => ?_) (fun q hq => .inl (List.mem_filter.mp hq).1) ?_ (fun q hq e => ?_)) hne fun q hq h => List.mem_filter.mpr ⟨hq, decide_eq_true h⟩
  · refine List.mem_filter.mpr ⟨hq, decide_eq_true fun h => ?_⟩
    obtain ⟨q1, q2⟩ := q
    simp only at h
    subst h
    exact e (own_same S.ond hq hi)
  · exact (List.Sublist.map _ List.filter_sublist).nodup S.ond
  · obtain ⟨h1, h2⟩ := List.mem_filter.mp hq
    obtain ⟨_, P', h3, h4⟩ := S.oap q h1
    exact ⟨P', hne _ h3 (of_decide_eq_true h2), h4⟩
theorem set_set {b c : Bd} : (ρ.set i b).set i c = ρ.set i c := by rw [List.set_set]
theorem RelS.bind2 {x : PySem.Str} {b c : Bd} {v : Value} (T : CxS cx cs) (S : RelS σ r cx cs (ρ.set i c) O L m Fs M M₀ X s) (hi : isVar cx x = some i) (hv : Holds cx.ns cs m M x v) (hb : BRepO σ r X M O i b v) : RelS σ r cx cs (ρ.set i b) O L m Fs M M₀ X s :=
  set_set (ρ := ρ) (i := i) (b := c) (c := b) ▸ S.bind T hi hv hb
theorem Holds.chg {x : PySem.Str} {v : Value} {a : Addr} {P P' : Obj → Prop} (h : Holds cx.ns cs m M x v) (S : RelS σ r cx cs ρ O L m Fs M M₀ X s) (ha : (i, a) ∈ O) (U : Ch a P P' M M') : Holds cx.ns cs m M' x v :=
  h.mono fun c w hc => U.old (fun e => S.noTag hc _ ha e.symm) hc
/-- an own object changes, its name holds the new one -/
theorem RelS.upd {x : PySem.Str} {b : Bd} {v : Value} {a : Addr} {P P' : Obj → Prop} (T : CxS cx cs) (S : RelS σ r cx cs ρ O L m Fs M M₀ X s) (hi : isVar cx x = some i) (hx : Holds cx.ns cs m M x v) (ha : (i, a) ∈ O) (U : Ch a P P' M M') (S' : St σ L m Fs M' X s') (hP : NoCell P') (hb : BRepO σ r X M' O i b v) : RelS σ r cx cs (ρ.set i b) O L m Fs M' M₀ X s' :=
  (S.chg ha U S' (Sub.refl _) hP).bind2 T hi (hx.chg S ha U) hb
theorem inst_vec_ne {a d : Addr} {vk vi va : Value} (S : St σ L m Fs M X s) (h4 : (a, InstP 246 d) ∈ M) (h5 : (d, VecP vk vi va) ∈ M) : a ≠ d := fun q => by
  subst q
  have e1 := mem_same S.mnd h4 h5
  obtain ⟨o, _, ho⟩ := S.own _ h4
  have h' : VecP vk vi va o := e1 ▸ ho
  obtain ⟨es, n', e', _⟩ := h'
  rw [show o = _ from ho] at e'
  cases e'
theorem inst_dict_ne {a d e : Addr} {K : Type} [DecidableEq K] {knd : KeyKind σ.prog σ.w K} {kvs : List (K × Value)} (S : St σ L m Fs M X s) (h4 : (a, InstP 246 d) ∈ M) (h5 : (e, fun o => o.IsDictOf knd kvs) ∈ M) : a ≠ e := fun q => by
  subst q
  have e1 := mem_same S.mnd h4 h5
  obtain ⟨o, _, ho⟩ := S.own _ h4
  have h' : Obj.IsDictOf knd o kvs := (congrFun e1 o).mp ho
  obtain ⟨es, ep, _, e', _⟩ := h'
  rw [show o = _ from ho] at e'
  cases e'
theorem isOv_says {o : Option Bd} (h : isOv o) : ∃ kd it at', o = some (.ov kd it at') := by
  cases o with
  | none => exact False.elim h
  | some b => cases b with
    | ov kd it at' => exact ⟨kd, it, at', rfl⟩
    | _ => exact False.elim h
theorem isOl_says {o : Option Bd} (h : isOl o) : ∃ l, o = some (.ol l) := by
  cases o with
  | none => exact False.elim h
  | some b => cases b with
    | ol l => exact ⟨l, rfl⟩
    | _ => exact False.elim h
end
end Mine

end
section
open PySem PySem.W PySem.Calls PyProof.Rows PySem.Spec
set_option Elab.async false
set_option maxRecDepth 100000
set_option linter.unusedVariables false
namespace Mine
inductive FlM (σ : Sig) (r : Option Addr) (X : Led) : Fl → Flow → Prop
  | next : FlM σ r X .next .next
  | cont : FlM σ r X .cont .cont
  | ret {p v} : Rep σ r X p v → FlM σ r X (.ret p) (.ret v)
noncomputable abbrev PostS (σ : Sig) (r : Option Addr) (cx : Cx) (cs : List (PySem.Str × Addr)) (L : Addr) (Fs : List (Addr × Know)) (M₀ : Mut) (X : Led) (Q : Fl → List Bd → Prop) (Q' : Flow → Shared → Prop) : Prop :=
  ∀ fl fl' ρ' O' m' M' X' s', Sub X X' → RelS σ r cx cs ρ' O' L m' Fs M' M₀ X' s' → FlM σ r X' fl fl' → Q fl ρ' → Q' fl' s'
noncomputable abbrev PostXS (σ : Sig) (L : Addr) (Fs : List (Addr × Know)) (M₀ : Mut) (X : Led) (R : PySem.Str → Prop) (E : Value → Shared → Prop) : Prop :=
  ∀ v msg m' s' X', Sub X X' → Raised σ L m' Fs M₀ X' s' v msg → R msg → E v s'

/-- law's own frame: where its lambdas take their code from -/
noncomputable def EnvT (cx : Cx) (env : Env) : Prop := cx.tb = true → env.code = .ref 507 ∧ env.qual ++ "<lambda>" = lamQual ∧ ∃ y, isVar cx y = some 0
structure Prims (σ : Sig) : Prop where
  keep : ∀ {r : Option Addr} {cx : Cx} {cs : List (PySem.Str × Addr)} {k : Nat} {ρ : List Bd} {O : Own} {L : Addr} {m : Know} {Fs : List (Addr × Know)} {M M₀ : Mut} {X : Led} {s : Shared} {env : Env} {A : Around} {E : Value → Shared → Prop} {i : Nat}
    {f x : PySem.Str} {px np lp pos : Pos} {b : Expr} {sc : Scope} {Q : List Bd → Prop} {Q' : Unit → Shared → Prop}, CxS cx cs → GOK σ cx → EnvIs env L cx.ns cs → EnvT cx env → cx.tb = true → Rm A k (L :: Fs.map (·.1)) → RelS σ r cx cs ρ O L m Fs M M₀ X s → (M₀.map (·.1)).Nodup →
    isVar cx x = some i → glo cx f = .fn 498 → lamOk cx sc = true → isTab ρ[0]? → 3 ≤ k → wpE (Ct σ) (k - 2) ρ (compE 60 (inLam cx sc) b) (fun p => Q (ρ.set i (.v p))) (fun y => Q (ρ.set i (.v (.str y)))) →
    (∀ O' m' M' X' s' ρ', Sub X X' → RelS σ r cx cs ρ' O' L m' Fs M' M₀ X' s' → Q ρ' → Q' () s') →
    wpAny σ.M A (eval (.Call (.Name f np) [.Lambda ⟨[], [], none, [], [], none, []⟩ b sc lp] [] pos) env) (fun v s₁ => wpAny σ.M A (storeName env x v) Q' E s₁) E s
  mkV : ∀ {A : Around} {E : Value → Shared → Prop} {L : Addr} {m : Know} {Fs : List (Addr × Know)} {M : Mut} {X : Led} {s : Shared} {v w : Value} {Q : Value → Shared → Prop}, St σ L m Fs M X s → Rm A 3 (L :: Fs.map (·.1)) → handedIn v = true → handedIn w = true →
    (∀ a d s', St σ L m Fs ((a, InstP 246 d) :: (d, VecP v w .none) :: M) X s' → Q (.ref a) s') → wpAny σ.M A (call (.ref 246) [v, w]) Q E s
  setA : ∀ {A : Around} {E : Value → Shared → Prop} {L : Addr} {m : Know} {Fs : List (Addr × Know)} {M M' : Mut} {X : Led} {s : Shared} {a d : Addr} {vk vi va w : Value} {Q : Unit → Shared → Prop}, St σ L m Fs M X s → (a, InstP 246 d) ∈ M → Ch d (VecP vk vi va) (VecP vk vi w) M M' → handedIn w = true →
    (∀ s', St σ L m Fs M' X s' → Q () s') → wpAny σ.M A (setAttr (.ref a) (Str.ofString "attrs") w) Q E s
  raise : ∀ {A : Around} {E : Value → Shared → Prop} {L : Addr} {m : Know} {Fs : List (Addr × Know)} {s : Shared} {env : Env} {x : Sem Value} {Q : Flow → Shared → Prop}, Rm A 0 (L :: Fs.map (·.1)) →
    wpAny σ.M A x (fun v s' => ∃ M X e d msg, v = .ref e ∧ St σ L m Fs ((e, ExcP d .none) :: (d, MsgP msg) :: M) X s' ∧ (∀ s2, St σ L m Fs ((e, ExcP d .none) :: (d, MsgP msg) :: M) X s2 → E v s2)) E s → wpAny σ.M A (raiseStmt env (some x) none) Q E s
  mkE : ∀ {A : Around} {E : Value → Shared → Prop} {L : Addr} {m : Know} {Fs : List (Addr × Know)} {M : Mut} {X : Led} {s : Shared} {msg : PySem.Str} {t : Tok} {Q : Value → Shared → Prop}, St σ L m Fs M X s → Rm A 3 (L :: Fs.map (·.1)) →
    (∀ e d s', St σ L m Fs ((e, ExcP d .none) :: (d, MsgP msg) :: M) X s' → Q (.ref e) s') → wpAny σ.M A (call (.ref 75) [.str msg t]) Q E s
  named : ∀ {A : Around} {E : Value → Shared → Prop} {L : Addr} {m : Know} {Fs : List (Addr × Know)} {M : Mut} {X : Led} {s : Shared} {r : Option Addr} {a d : Addr} {kd : PySem.Str} {t : Tok} {vi w : Value} {l : List PV} {Q : Value → Shared → Prop}, St σ L m Fs M X s → Rm A 5 (L :: Fs.map (·.1)) →
    (∀ b, r = some b → (b, RowO) ∈ M) → (a, InstP 246 d) ∈ M → (d, VecP (.str kd t) vi .none) ∈ M → Rep σ r X (.list l) w → l.length ≤ 2 ^ 20 →
    (∀ v' e vs M' X' s', Sub X X' → St σ L m Fs M' X' s' → (∀ p ∈ M, p.1 ≠ d → p ∈ M') → (d, VecP (.str kd t) vi (.ref e)) ∈ M' → (e, fun o => o.IsDictOf (strK σ) ([Str.ofString "names"].zip vs)) ∈ M' → e ∉ M.map (·.1) → (e == sysModules) = false → vs.length = 1 →
      Reps σ r X' [.vec (Str.ofString "character") (.list l) .none] vs → Q v' s') → wpAny σ.M A (call (.ref 293) [.ref a, w]) Q E s
  leave : ∀ {A : Around} {E : Value → Shared → Prop} {env : Env} {L L₀ : Addr} {m m₀ : Know} {Fs : List (Addr × Know)} {M : Mut} {X : Led} {s : Shared} {v : Value} {msg : PySem.Str} {Q : Unit → Shared → Prop}, Raised σ L m ((L₀, m₀) :: Fs) M X s v msg → env.frame = some L → env.scope.kind = .function → Rm A 0 (L₀ :: Fs.map (·.1)) →
    (∀ s', Raised σ L₀ m₀ Fs M X s' v msg → Q () s') → wpAny σ.M (A.deeper env) (leaving env v) Q E s

section
variable {σ : Sig} {r : Option Addr} {cx : Cx} {cs : List (PySem.Str × Addr)} {ρ : List Bd} {O O' : Own} {A : Around} {E : Value → Shared → Prop} {L : Addr} {m : Know} {Fs : List (Addr × Know)} {M M' M₀ : Mut} {X X' : Led} {s s' : Shared} {env : Env} {i k n : Nat} {R : PySem.Str → Prop}
theorem St.subM (S : St σ L m Fs M X s) (h : ∀ p ∈ M₀, p ∈ M) (hn : (M₀.map (·.1)).Nodup) : St σ L m Fs M₀ X s := by
  have hs : ∀ b ∈ M₀.map (·.1), b ∈ M.map (·.1) := fun b hb => by
    obtain ⟨p, hp, e⟩ := List.mem_map.mp hb
    exact List.mem_map.mpr ⟨p, h p hp, e⟩
  refine ⟨S.ok, S.gens, S.drawn, S.os, S.W, S.cur, S.fs, fun p hp => S.own p (h p hp), S.fz, ?_, fun b hb => S.new b ?_⟩
  · have := S.nd
    simp only [List.nodup_cons, List.mem_append, List.nodup_append, not_or] at this ⊢
    exact ⟨⟨this.1.1, fun q => this.1.2 (hs _ q)⟩, this.2.1, hn, fun x hx y hy => this.2.2.2 x hx y (hs _ hy)⟩
  · simp only [List.mem_cons, List.mem_append] at hb ⊢
    rcases hb with h | h | h
    · exact .inl h
    · exact .inr (.inl h)
    · exact .inr (.inr (hs _ h))
theorem nodup_pre {P : Addr → Obj → Prop} {pre : Mut} (hn : ((pre ++ M).map (·.1)).Nodup) (h : ∀ p ∈ M₀, p ∈ M) (hn0 : (M₀.map (·.1)).Nodup) : ((pre ++ M₀).map (·.1)).Nodup := by
  rw [List.map_append, List.nodup_append] at hn ⊢
  refine ⟨hn.1, hn0, fun x hx y hy => hn.2.2 x hx y ?_⟩
  obtain ⟨p, hp, e⟩ := List.mem_map.mp hy
  exact List.mem_map.mpr ⟨p, h p hp, e⟩
theorem Raised.subM {v : Value} {msg : PySem.Str} (h : Raised σ L m Fs M X s v msg) (hk : ∀ p ∈ M₀, p ∈ M) (hn : (M₀.map (·.1)).Nodup) : Raised σ L m Fs M₀ X s v msg := by
  obtain ⟨e, d, rfl, h⟩ := h
  refine ⟨e, d, rfl, ?_⟩
  rcases h with ⟨T, h⟩ | h
  · refine .inl ⟨T, h.subM (fun p hp => ?_) (nodup_pre (P := fun _ _ => True) (pre := [(e, ExcP d (.ref T)), (T, TbP), (d, MsgP msg)]) (M := M) h.mnd hk hn)⟩
    rcases List.mem_append.mp (show p ∈ [(e, ExcP d (.ref T)), (T, TbP), (d, MsgP msg)] ++ M₀ from hp) with h | h
    · exact List.mem_append_left M h
    · exact List.mem_append_right [(e, ExcP d (.ref T)), (T, TbP), (d, MsgP msg)] (hk p h)
  · refine .inr (h.subM (fun p hp => ?_) (nodup_pre (P := fun _ _ => True) (pre := [(e, ExcP d .none), (d, MsgP msg)]) (M := M) h.mnd hk hn))
    rcases List.mem_append.mp (show p ∈ [(e, ExcP d .none), (d, MsgP msg)] ++ M₀ from hp) with h | h
    · exact List.mem_append_left M h
    · exact List.mem_append_right [(e, ExcP d .none), (d, MsgP msg)] (hk p h)
/-- the exceptional end of an expression within a statement -/
theorem RelS.exc (S : RelS σ r cx cs ρ O L m Fs M M₀ X s) (hn : (M₀.map (·.1)).Nodup) (HX : PostXS σ L Fs M₀ X R E) : PostX σ L m Fs M X R E := fun v msg s' X' hX h hm => HX v msg m s' X' hX (h.subM S.keep hn) hm
theorem PostXS.mono (H : PostXS σ L Fs M₀ X R E) (hs : Sub X X') : PostXS σ L Fs M₀ X' R E := fun v msg m' s' X1 h hr hm => H v msg m' s' X1 (hs.trans h) hr hm
theorem PostS.mono {Q : Fl → List Bd → Prop} {Q' : Flow → Shared → Prop} (H : PostS σ r cx cs L Fs M₀ X Q Q') (hs : Sub X X') : PostS σ r cx cs L Fs M₀ X' Q Q' := fun fl fl' ρ' O' m' M' X1 s' h => H fl fl' ρ' O' m' M' X1 s' (hs.trans h)

/-- an assignment whose value is frozen -/
theorem st_asg (hv : EvOK σ n) (T : CxS cx cs) (hG : GOK σ cx) (V : EnvIs env L cx.ns cs) (hR : Rm A k (L :: Fs.map (·.1))) (S : RelS σ r cx cs ρ O L m Fs M M₀ X s) (hn : (M₀.map (·.1)).Nodup) {x : PySem.Str} {px pos : Pos} {e : Expr} {Q' : Unit → Shared → Prop}
    (hi : isVar cx x = some i) {Q : List Bd → Prop} (hw : wpE (Ct σ) k ρ (compE n cx e) (fun p => Q (ρ.set i (.v p))) R) (H : ∀ O' m' M' X' s' ρ', Sub X X' → RelS σ r cx cs ρ' O' L m' Fs M' M₀ X' s' → Q ρ' → Q' () s') (HX : PostXS σ L Fs M₀ X R E) :
    wpAny σ.M A (eval e env) (fun v s₁ => wpAny σ.M A (storeName env x v) Q' E s₁) E s :=
  hv hG V hR (S.rel T) hw (fun v p s1 X1 hX1 S1 hv' hq => (S.grow hX1 S1.st).store T V hi (b := .v p) hv' fun m' M' s' S' => H _ _ _ X1 _ _ hX1 S' hq) (S.exc hn HX)
theorem st_newL (T : CxS cx cs) (V : EnvIs env L cx.ns cs) (S : RelS σ r cx cs ρ O L m Fs M M₀ X s) {x : PySem.Str} {pos : Pos} {Q' : Unit → Shared → Prop} (hi : isVar cx x = some i)
    (H : ∀ O' m' M' s', RelS σ r cx cs (ρ.set i (.ol [])) O' L m' Fs M' M₀ X s' → Q' () s') : wpAny σ.M A (eval (.List [] pos) env) (fun v s₁ => wpAny σ.M A (storeName env x v) Q' E s₁) E s := by
  refine List_ (r_spl0 (r_newList S.st fun a s' S' => ?_))
  refine (S.push i S' (Sub.refl X) noCell_list).store T V hi (b := .ol []) (.mk a [] (.head _) (.head _) .nil) fun m' M' s'' S'' => ?_
  rw [set_set] at S''
  exact H _ _ _ _ S''
theorem st_newD (T : CxS cx cs) (V : EnvIs env L cx.ns cs) (S : RelS σ r cx cs ρ O L m Fs M M₀ X s) {x : PySem.Str} {pos : Pos} {Q' : Unit → Shared → Prop} (hi : isVar cx x = some i)
    (H : ∀ O' m' M' s', RelS σ r cx cs (ρ.set i (.os [] [])) O' L m' Fs M' M₀ X s' → Q' () s') : wpAny σ.M A (eval (.Dict [] [] pos) env) (fun v s₁ => wpAny σ.M A (storeName env x v) Q' E s₁) E s := by
  refine wpAny_Dict_empty ?_
  have S' := S.st.pushM (P := fun o => o.IsDictOf (strK σ) (([] : List PySem.Str).zip ([] : List Value))) (o := { cls := .type "dict", data := .dict #[] }) d_empty
  refine (S.push i S' (Sub.refl X) noCell_dict).store T V hi (b := .os [] []) (.mk _ [] (.head _) (.head _) S.st.sm rfl .nil) fun m' M' s'' S'' => ?_
  rw [set_set] at S''
  exact H _ _ _ _ S''
theorem st_newV (Pm : Prims σ) (hv : EvOK σ n) (T : CxS cx cs) (hG : GOK σ cx) (V : EnvIs env L cx.ns cs) (hR : Rm A k (L :: Fs.map (·.1))) (S : RelS σ r cx cs ρ O L m Fs M M₀ X s) (hn : (M₀.map (·.1)).Nodup) {x f : PySem.Str} {np px pos : Pos} {a b : Expr} {Q' : Unit → Shared → Prop}
    (hi : isVar cx x = some i) (hg : glo cx f = .fn 246) (hs : noStar [a, b] = true) {Q : List Bd → Prop} (hw : wpE (Ct σ) k ρ (compE n cx a) (fun p => wpE (Ct σ) k ρ (compE n cx b) (fun q => match p with | .str x => 3 ≤ k ∧ Q (ρ.set i (.ov x q none)) | _ => False) R) R)
    (H : ∀ O' m' M' X' s' ρ', Sub X X' → RelS σ r cx cs ρ' O' L m' Fs M' M₀ X' s' → Q ρ' → Q' () s') (HX : PostXS σ L Fs M₀ X R E) :
    wpAny σ.M A (eval (.Call (.Name f np) [a, b] [] pos) env) (fun v s₁ => wpAny σ.M A (storeName env x v) Q' E s₁) E s := by
  obtain ⟨h1, h2⟩ := glo_fn hg
  obtain ⟨h3, h4⟩ := hG.fn _ _ h2
  obtain ⟨n1, n2⟩ := noStar_cons hs
  refine r_callD S.st V h1 h3 h4 (r_items (hv hG V hR (S.rel T) hw (fun v p s1 X1 hX1 S1 hp h1 => r_items (hv hG V hR S1 h1 (fun w q s2 X2 hX2 S2 hq h2 => r_spl0 ⟨S2.st.live, ?_⟩) ((S.exc hn HX).mono hX1)) ((noStar_cons n2).1 env)) (S.exc hn HX)) (n1 env)) (noStar_any hs _ _)
  cases p <;> try exact h2.elim
  rename_i y
  refine rep_str hp fun t => ?_
  obtain ⟨hk, h2⟩ := h2
  refine Pm.mkV S2.st (hR.low hk) rfl (rep_handed hq) fun a d s3 S3 => ?_
  have S4 := S.grow (hX1.trans hX2) S2.st
  have hd : d ∉ M.map (·.1) ∧ a ∉ d :: M.map (·.1) := by
    have := S3.mnd
    simp only [List.map_cons, List.nodup_cons] at this
    exact ⟨this.2.1, this.1⟩
  have S5 : RelS σ r cx cs (ρ.set i .u) ((i, a) :: (i, d) :: O) L m Fs ((a, InstP 246 d) :: (d, VecP (.str y t) w .none) :: M) M₀ X2 s3 := by
    refine S4.re i S3 (Sub.refl _) (fun p hp _ => .tail _ (.tail _ hp)) (fun q hq _ => .tail _ (.tail _ hq)) (fun q hq => ?_) ?_ fun q hq e => ?_
    · rcases List.mem_cons.mp hq with rfl | hq
      · exact .inr ⟨rfl, fun h => hd.2 (.tail _ h)⟩
      · rcases List.mem_cons.mp hq with rfl | hq
        · exact .inr ⟨rfl, hd.1⟩
        · exact .inl hq
    · have hO : ∀ q ∈ O, q.2 ∈ M.map (·.1) := fun q hq => by
        obtain ⟨_, P', h2, _⟩ := S.oap q hq
        exact List.mem_map.mpr ⟨_, h2, rfl⟩
      simp only [List.map_cons, List.nodup_cons]
      refine ⟨fun h => ?_, fun h => ?_, S.ond⟩
      · rcases List.mem_cons.mp h with h | h
        · exact hd.2 (h ▸ .head _)
        · obtain ⟨q, hq, e⟩ := List.mem_map.mp h
          exact hd.2 (.tail _ (by rw [← e]; exact hO q hq))
      · obtain ⟨q, hq, e⟩ := List.mem_map.mp h
        exact hd.1 (by rw [← e]; exact hO q hq)
    · rcases List.mem_cons.mp hq with rfl | hq
      · exact ⟨_, .head _, noCell_inst⟩
      · rcases List.mem_cons.mp hq with rfl | hq
        · exact ⟨_, .tail _ (.head _), noCell_vec⟩
        · obtain ⟨_, P', h2, h3⟩ := S.oap q hq
          exact ⟨P', .tail _ (.tail _ h2), h3⟩
  refine S5.store T V hi (b := .ov _ q none) (.mk a d t w .none (.head _) (.tail _ (.head _)) (.head _) (.tail _ (.head _)) hq rfl) fun m' M' s'' S'' => ?_
  rw [set_set] at S''
  exact H _ _ _ X2 _ _ (hX1.trans hX2) S'' h2
/-- what stands in an own variable -/
theorem RelS.at (S : RelS σ r cx cs ρ O L m Fs M M₀ X s) {x : PySem.Str} {b : Bd} (hi : isVar cx x = some i) (hb : ρ[i]? = some b) (hne : b ≠ .u) : ∃ v, Holds cx.ns cs m M x v ∧ BRepO σ r X M O i b v := S.val x i b hi hb hne
theorem st_app (hv : EvOK σ n) (T : CxS cx cs) (hG : GOK σ cx) (V : EnvIs env L cx.ns cs) (hR : Rm A k (L :: Fs.map (·.1))) (S : RelS σ r cx cs ρ O L m Fs M M₀ X s) (hn : (M₀.map (·.1)).Nodup) {x : PySem.Str} {np ap pos : Pos} {e : Expr} {Q' : Value → Shared → Prop}
    (hi : isVar cx x = some i) (hl : (ap.endLine == pos.line) = true) (hs : noStar [e] = true) {Q : List Bd → Prop} (ho : isOl ρ[i]?) (hw : wpE (Ct σ) k ρ (compE n cx e) (fun p => appP i ρ p Q) R)
    (H : ∀ O' m' M' X' s' ρ', Sub X X' → RelS σ r cx cs ρ' O' L m' Fs M' M₀ X' s' → Q ρ' → Q' .none s') (HX : PostXS σ L Fs M₀ X R E) :
    wpAny σ.M A (eval (.Call (.Attribute (.Name x np) (Str.ofString "append") ap) [e] [] pos) env) Q' E s := by
  have hsl : sizeLine = 16777216 := sizeLine_eq
  have few : ((backTo pos (starEach [e] env)).all (fun x => !x.1) && (backToKw pos (keywordEach [] env)).all (fun x => x.1.isSome)
      && decide (([e] : List Expr).length + ([] : List Keyword).length + (if ([] : List Keyword).isEmpty then 0 else 1) < 30)) = true := by rw [star1 hs]; rfl
  obtain ⟨l, hb⟩ := isOl_says ho
  obtain ⟨w, h1, h2⟩ := S.at hi hb (fun h => nomatch h)
  cases h2 with
  | mk a vs h3 h4 h5 =>
    refine r_meth F.plainAttrs_list F.slot_list_append F.type_list_append (s_name V S.st h1 ⟨on_own S.st h4, r_items (hv hG V hR (S.rel T) hw (fun v p s1 X1 hX1 S1 hp hq => r_spl0 ?_) (S.exc hn HX)) ((noStar_cons hs).1 env)⟩) (base_plain (by intro _ _ _ h; cases h)) few hl (noStar_any hs _ _)
    unfold appP at hq
    rw [hb] at hq
    have hq : l.length ≤ 2 ^ 20 ∧ Q (ρ.set i (.ol (l ++ [p]))) := hq
    have S2 := S.grow hX1 S1.st
    obtain ⟨M', U⟩ := Ch.ex (LsP (vs ++ [v])) h4
    refine r_append S2.st U (by rw [← h5.length]; omega) fun s3 S3 => ?_
    exact H _ _ _ X1 _ _ hX1 (S2.upd T hi h1 h3 U S3 noCell_list (b := .ol (l ++ [p])) (.mk a (vs ++ [v]) h3 U.new ((h5.mono hX1).snoc hp))) hq.2
theorem empty_kind {o : Obj} {K K2 : Type} [DecidableEq K] [DecidableEq K2] {prog : Program} {w : World} {knd : KeyKind prog w K} {knd2 : KeyKind prog w K2} (h : o.IsDictOf knd []) : o.IsDictOf knd2 [] := by
  obtain ⟨es, ep, h1, h2, h3, h4, h5⟩ := h
  have e : es.toList = [] := by simpa using h4.length
  have e' : es = #[] := by simpa using e
  subst e'
  exact ⟨_, ep, h1, h2, (fun e he => by simp at he), .nil, .nil⟩
theorem stored_zipI {ks : List Int} {vs : List Value} {k : Int} {v : Value} (hl : ks.length = vs.length) (hn : ks.Nodup) : ∃ vs', stored (ks.zip vs) k v = (if k ∈ ks then ks else ks ++ [k]).zip vs' ∧ (if k ∈ ks then ks else ks ++ [k]).length = vs'.length := by
  by_cases hk : k ∈ ks
  · obtain ⟨j, hj⟩ := List.mem_iff_getElem?.mp hk
    rw [if_pos hk]
    exact ⟨vs.set j v, stored_zip_hit hl hn hj, by simpa using hl⟩
  · rw [if_neg hk]
    exact ⟨vs ++ [v], stored_zip_miss hl hk, by simp [hl]⟩
theorem swaps_sub {value a b : Expr} {p : Pos} {l : Nat} {env : Env} : swapsWith value (some (.Subscript a b p)) l env = pure false := by
  unfold swapsWith
  cases value <;> rfl
theorem swaps_attr {value a : Expr} {f : PySem.Str} {p : Pos} {l : Nat} {env : Env} : swapsWith value (some (.Attribute a f p)) l env = pure false := by
  unfold swapsWith
  cases value <;> rfl
/-- store into an own dict -/
theorem s_setItem {Q' : Unit → Shared → Prop} {x : PySem.Str} {p q : PV} {v w : Value} {dv : Value} {Q : List Bd → Prop} (T : CxS cx cs) (S : RelS σ r cx cs ρ O L m Fs M M₀ X s) (hi : isVar cx x = some i) (hx : Holds cx.ns cs m M x dv) (hdv : ∀ b, ρ[i]? = some b → b ≠ .u → BRepO σ r X M O i b dv)
    (hp : Rep σ r X p v) (hq : Rep σ r X q w) (hw : setiP i ρ q p Q) (H : ∀ O' m' M' s' ρ', RelS σ r cx cs ρ' O' L m' Fs M' M₀ X s' → Q ρ' → Q' () s') : wpAny σ.M A (setItem dv w v) Q' E s := by
  have hsl : sizeLine = 16777216 := sizeLine_eq
  have hd : ∀ b, ρ[i]? = some b → b ≠ .u → BRepO σ r X M O i b dv := hdv
  unfold setiP at hw
  cases hb : ρ[i]? with
  | none => rw [hb] at hw; exact False.elim hw
  | some b =>
    rw [hb] at hw
    cases b with
    | os ks l =>
      have h2 := hd _ hb (fun h => nomatch h)
      cases h2 with
      | mk a vs h3 h4 hsm h5 h6 =>
        cases q with
        | str y =>
          refine rep_str hq fun t => ?_
          have D := S.st.dictM h4
          have hn : ks.Nodup := by
            obtain ⟨o, _, hdo⟩ := S.st.own _ h4
            obtain ⟨_, _, _, _, _, _, h⟩ := hdo
            rwa [zip_fst h5] at h
          obtain ⟨vs', z1, z2, z3⟩ := stored_zip (k := y) h5 hn h6 hp
          refine wpAny_setItem_pairs (knd := strK σ) (strKind_is _ _ _ _) D (fun h' hd hs => ?_) (by rw [List.length_zip, ← h5, Nat.min_self, hsl]; exact Nat.le_trans hw.1 (by decide))
          obtain ⟨o, ho, hdo⟩ := Heap.dictOf_iff.mp hd
          rw [z1] at hdo
          obtain ⟨M', U⟩ := Ch.ex (fun o => o.IsDictOf (strK σ) ((putP ks l y p).1.zip vs')) h4
          have S3 := S.st.setMut (s' := { s with heap := h', toks := s.toks + 1 }) U (fun b ob hb e => (hs.2 b hb).trans e) ⟨o, ho, hdo⟩
          exact H _ _ _ _ _ (S.upd T hi hx h3 U S3 noCell_dict (b := .os (putP ks l y p).1 (putP ks l y p).2) (.mk a vs' h3 U.new hsm z2 z3)) hw.2
        | int y => cases ks with
          | nil => cases l with
            | nil =>
              refine rep_int hq fun t => ?_
              have D : s.heap.DictOf (intK σ) a [] := by
                obtain ⟨o, ho, hdo⟩ := S.st.own _ h4
                exact Heap.dictOf_iff.mpr ⟨o, ho, empty_kind hdo⟩
              refine wpAny_setItem_pairs (knd := intK σ) (intKind_is _ _ _ _) D (fun h' hd hs => ?_)
              obtain ⟨o, ho, hdo⟩ := Heap.dictOf_iff.mp hd
              obtain ⟨M', U⟩ := Ch.ex (fun o => o.IsDictOf (intK σ) ([y].zip [v])) h4
              have S3 := S.st.setMut (s' := { s with heap := h', toks := s.toks + 1 }) U (fun b ob hb e => (hs.2 b hb).trans e) ⟨o, ho, hdo⟩
              exact H _ _ _ _ _ (S.upd T hi hx h3 U S3 noCell_dict (b := .oi [y]) (.mk a [v] h3 U.new hsm rfl)) hw
            | cons _ _ => exact False.elim hw
          | cons _ _ => exact False.elim hw
        | _ => exact False.elim hw
    | oi ks =>
      have h2 := hd _ hb (fun h => nomatch h)
      cases h2 with
      | mk a vs h3 h4 hsm h5 =>
        cases q with
        | int y =>
          refine rep_int hq fun t => ?_
          have D := S.st.dictM h4
          have hn : ks.Nodup := by
            obtain ⟨o, _, hdo⟩ := S.st.own _ h4
            obtain ⟨_, _, _, _, _, _, h⟩ := hdo
            rwa [zip_fst h5] at h
          obtain ⟨vs', z1, z2⟩ := stored_zipI (k := y) (v := v) h5 hn
          refine wpAny_setItem_pairs (knd := intK σ) (intKind_is _ _ _ _) D (fun h' hd hs => ?_) (by rw [List.length_zip, ← h5, Nat.min_self, hsl]; exact Nat.le_trans hw.1 (by decide))
          obtain ⟨o, ho, hdo⟩ := Heap.dictOf_iff.mp hd
          rw [z1] at hdo
          obtain ⟨M', U⟩ := Ch.ex (fun o => o.IsDictOf (intK σ) ((if y ∈ ks then ks else ks ++ [y]).zip vs')) h4
          have S3 := S.st.setMut (s' := { s with heap := h', toks := s.toks + 1 }) U (fun b ob hb e => (hs.2 b hb).trans e) ⟨o, ho, hdo⟩
          exact H _ _ _ _ _ (S.upd T hi hx h3 U S3 noCell_dict (b := .oi (if y ∈ ks then ks else ks ++ [y])) (.mk a vs' h3 U.new hsm z2)) hw.2
        | _ => exact False.elim hw
    | _ => exact False.elim hw
theorem st_seti (hv : EvOK σ n) (T : CxS cx cs) (hG : GOK σ cx) (V : EnvIs env L cx.ns cs) (hR : Rm A k (L :: Fs.map (·.1))) (S : RelS σ r cx cs ρ O L m Fs M M₀ X s) (hn : (M₀.map (·.1)).Nodup) {x : PySem.Str} {np sp pos : Pos} {e key : Expr} {Q' : Flow → Shared → Prop}
    (hi : isVar cx x = some i) {Q : List Bd → Prop} (ho : ∃ b, ρ[i]? = some b ∧ b ≠ .u) (hw : wpE (Ct σ) k ρ (compE n cx e) (fun p => wpE (Ct σ) k ρ (compE n cx key) (fun q => setiP i ρ q p Q) R) R)
    (H : ∀ O' m' M' X' s' ρ', Sub X X' → RelS σ r cx cs ρ' O' L m' Fs M' M₀ X' s' → Q ρ' → Q' .next s') (HX : PostXS σ L Fs M₀ X R E) :
    wpAny σ.M A (exec (.Assign [.Subscript (.Name x np) key sp] e pos) env) Q' E s := by
  obtain ⟨b, hb, hne⟩ := ho
  obtain ⟨w, h1, h2⟩ := S.at hi hb hne
  refine wpAny_Assign_Subscript (hv hG V hR (S.rel T) hw (fun v p s1 X1 hX1 S1 hp hq => s_name V S1.st h1 (hv hG V hR S1 hq (fun u q s2 X2 hX2 S2 hq h3 => ?_) ((S.exc hn HX).mono hX1))) (S.exc hn HX)) swaps_sub
  have S3 := S.grow (hX1.trans hX2) S2.st
  refine s_setItem T S3 hi h1 (fun b' hb' _ => ?_) (Rep.mono hX2 _ _ hp) hq h3 fun O' m' M' s' ρ' S' hq' => H _ _ _ X2 _ _ (hX1.trans hX2) S' hq'
  rw [hb] at hb'; cases hb'
  exact h2.mono (hX1.trans hX2) (fun _ h _ => h) fun _ h => h
end
end Mine

end
section
open PySem PySem.W PySem.Calls PyProof.Rows PySem.Spec
set_option Elab.async false
set_option maxRecDepth 100000
set_option linter.unusedVariables false
namespace Mine
section
variable {σ : Sig} {r : Option Addr} {cx : Cx} {cs : List (PySem.Str × Addr)} {ρ : List Bd} {O O' : Own} {A : Around} {E : Value → Shared → Prop} {L : Addr} {m : Know} {Fs : List (Addr × Know)} {M M' M₀ : Mut} {X X' : Led} {s s' : Shared} {env : Env} {i k n : Nat} {R : PySem.Str → Prop}
/-- {k: e}, the dict still own -/
theorem s_dict1own {pos p1 : Pos} {x : PySem.Str} {j : Nat} {e : Expr} {Q : PV → Prop} {Q' : Value → Shared → Prop} (ih : EvOK σ n) (hG : GOK σ cx) (V : EnvIs env L cx.ns cs) (hR : Rm A k (L :: Fs.map (·.1))) (S : Rel σ r cx cs ρ L m Fs M X s)
    (hw : wpE (Ct σ) k ρ (compE n cx e) Q R) (H : ∀ a v p s' X', Sub X X' → St σ L m Fs ((a, fun o => o.IsDictOf (strK σ) ([x].zip [v])) :: M) X' s' → (a == sysModules) = false → Rep σ r X' p v → Q p → Q' (.ref a) s') (HX : PostX σ L m Fs M X R E) :
    wpAny σ.M A (eval (.Dict [some (.Constant (.str x) j p1)] [e] pos) env) Q' E s := by
  have hsm := S.st.sm
  refine wpAny_Dict_pairs (knd := strK σ) (pairs := [(eval (.Constant (.str x) j p1) env, do let y ← eval e env; standAt pos; pure y)]) rfl (by simp) (by simp) ?_
  have S1 := S.addM (S.st.pushM (P := fun o => o.IsDictOf (strK σ) []) (o := { cls := .type "dict", data := .dict #[] }) d_empty)
  refine evalPairs_cons (r_str S1.st fun t s2 S2 => wpAny_bind (ih hG V hR (S1.grow (Sub.refl X) S2) hw (fun v p s3 X3 hX3 S3 hv hq => wpAny_bind (wpAny_standAt (wpAny_pure ?_))) fun v msg s' X' h1 h2 h3 => HX v msg s' X' h1 h2.dropM h3))
  refine evalPairs_nil ⟨[(x, v)], ⟨strKind_is _ _ _ _, rfl, trivial⟩, S3.st.dictM (.head _), fun h' hd hs' => ?_⟩
  have hm : merged [] [(x, v)] = [(x, v)] := rfl
  rw [hm] at hd
  obtain ⟨o, ho, hdo⟩ := Heap.dictOf_iff.mp hd
  have S4 := S3.st.setMut (P' := fun o => o.IsDictOf (strK σ) [(x, v)]) (s' := { s3 with heap := h', toks := s3.toks + [(Value.str x t, v)].length }) .head (fun b ob hb e => (hs'.2 b hb).trans e) ⟨o, ho, hdo⟩
  exact H _ v p _ X3 hX3 S4 hsm hv hq
theorem own_ne (S : RelS σ r cx cs ρ O L m Fs M M₀ X s) {a : Addr} (ha : a ∉ M.map (·.1)) : ∀ q ∈ O, q.2 ≠ a := fun q hq e => by
  obtain ⟨_, P', h2, _⟩ := S.oap q hq
  exact ha (by rw [← e]; exact List.mem_map.mpr ⟨_, h2, rfl⟩)
/-- the attrs of an own vector become a new own dict -/
theorem s_putA (Pm : Prims σ) (T : CxS cx cs) {x : PySem.Str} {kd : PySem.Str} {it : PV} {at' : Option (List PySem.Str × List PV)} {dv : Value} {e : Addr} {ks : List PySem.Str} {l : List PV} {vs : List Value} {Q' : Unit → Shared → Prop}
    (S : RelS σ r cx cs ρ O L m Fs M M₀ X s) (hX : Sub X X') (S1 : St σ L m Fs ((e, fun o => o.IsDictOf (strK σ) (ks.zip vs)) :: M) X' s') (hsm : (e == sysModules) = false) (hl : ks.length = vs.length) (hr : Reps σ r X' l vs)
    (hi : isVar cx x = some i) (hb : ρ[i]? = some (.ov kd it at')) (hx : Holds cx.ns cs m M x dv) (hdv : BRepO σ r X M O i (.ov kd it at') dv)
    (H : ∀ O' m' M' s', RelS σ r cx cs (ρ.set i (.ov kd it (some (ks, l)))) O' L m' Fs M' M₀ X' s' → Q' () s') : wpAny σ.M A (setAttr dv (Str.ofString "attrs") (.ref e)) Q' E s' := by
  cases hdv with
  | mk a d t vi va h2 h3 h4 h5 h6 _ =>
    have hne : e ∉ M.map (·.1) := (List.nodup_cons.mp S1.mnd).1
    obtain ⟨M1, U⟩ := Ch.ex (VecP (.str kd t) vi (.ref e)) h5
    have U' : Ch d (VecP (.str kd t) vi va) (VecP (.str kd t) vi (.ref e)) ((e, fun o => o.IsDictOf (strK σ) (ks.zip vs)) :: M) ((e, _) :: M1) := .tail U
    refine Pm.setA S1 (.tail _ h4) U' rfl fun s2 S2 => ?_
    have S0 := S.push i S1 hX noCell_dict
    have ad := inst_vec_ne S.st h4 h5
    have S4 := S0.upd (s' := s2) (b := .ov kd it (some (ks, l))) T hi (hx.mono fun c w h => .tail _ h) (.tail _ h3) U' S2 noCell_vec
      (.mk a d t vi (.ref e) (.tail _ h2) (.tail _ h3) (.tail _ (U.old ad h4)) (.tail _ U.new) (Rep.mono hX _ _ h6) (.mk e vs ⟨.head _, fun q => hne (by rw [← q]; exact List.mem_map.mpr ⟨_, h5, rfl⟩)⟩ (.head _) hsm hl hr))
    rw [set_set] at S4
    exact H _ _ _ _ S4
theorem st_setA (Pm : Prims σ) (hv : EvOK σ n) (T : CxS cx cs) (hG : GOK σ cx) (V : EnvIs env L cx.ns cs) (hR : Rm A k (L :: Fs.map (·.1))) (S : RelS σ r cx cs ρ O L m Fs M M₀ X s) (hn : (M₀.map (·.1)).Nodup) {x key : PySem.Str} {np ap dp kp pos : Pos} {j : Nat} {e : Expr} {Q' : Flow → Shared → Prop}
    (hi : isVar cx x = some i) {Q : List Bd → Prop} (ho : isOv ρ[i]?) (hw : wpE (Ct σ) k ρ (compE n cx e) (fun p => setAP i ρ key p Q) R)
    (H : ∀ O' m' M' X' s' ρ', Sub X X' → RelS σ r cx cs ρ' O' L m' Fs M' M₀ X' s' → Q ρ' → Q' .next s') (HX : PostXS σ L Fs M₀ X R E) :
    wpAny σ.M A (exec (.Assign [.Attribute (.Name x np) (Str.ofString "attrs") ap] (.Dict [some (.Constant (.str key) j kp)] [e] dp) pos) env) Q' E s := by
  obtain ⟨kd, it, at', hb⟩ := isOv_says ho
  obtain ⟨w, h1, h2⟩ := S.at hi hb (fun h => nomatch h)
  refine plainObj_wpAny_Assign_Attribute (s_dict1own hv hG V hR (S.rel T) hw (fun a v p s1 X1 hX1 S1 hsm hp hq => ?_) (S.exc hn HX)) swaps_attr
  unfold setAP at hq
  rw [hb] at hq
  refine s_name V S1 (h1.mono fun c w h => .tail _ h) ?_
  exact s_putA Pm T S hX1 S1 hsm rfl (.cons hp .nil) hi hb h1 h2 fun O' m' M' s' S' => H _ _ _ X1 _ _ hX1 S' hq
/-- an own vector's attrs are read -/
theorem s_getA (hK : KOK σ.K) {kd : PySem.Str} {it : PV} {at' : Option (List PySem.Str × List PV)} {dv : Value} {Q' : Value → Shared → Prop} (S : St σ L m Fs M X s) (h : BRepO σ r X M O i (.ov kd it at') dv)
    (H : ∀ d va s', St σ L m Fs M X s' → AtIs σ r X M (fun a => (i, a) ∈ O) d at' va → Q' va s') :
    wpAny σ.M A (getAttr dv (Str.ofString "attrs") true) Q' E s := by
  cases h with
  | mk a d t vi va h2 h3 h4 h5 h6 h7 =>
    obtain ⟨o, ho, rfl⟩ := S.own _ h4
    obtain ⟨o2, ho2, es, n', rfl, _, _, _, h9⟩ := S.own _ h5
    exact s_get hK (.head _) (.tail _ (.tail _ (.head _))) S ho ho2 h9 fun s' S' => H d va s' S' h7
theorem st_setAI (hK : KOK σ.K) (hv : EvOK σ n) (T : CxS cx cs) (hG : GOK σ cx) (V : EnvIs env L cx.ns cs) (hR : Rm A k (L :: Fs.map (·.1))) (S : RelS σ r cx cs ρ O L m Fs M M₀ X s) (hn : (M₀.map (·.1)).Nodup) {x key : PySem.Str} {np ap sp kp pos : Pos} {j : Nat} {e : Expr} {Q' : Flow → Shared → Prop}
    (hi : isVar cx x = some i) {Q : List Bd → Prop} (ho : isOv ρ[i]?) (hw : wpE (Ct σ) k ρ (compE n cx e) (fun p => setAIP i ρ key p Q) R)
    (H : ∀ O' m' M' X' s' ρ', Sub X X' → RelS σ r cx cs ρ' O' L m' Fs M' M₀ X' s' → Q ρ' → Q' .next s') (HX : PostXS σ L Fs M₀ X R E) :
    wpAny σ.M A (exec (.Assign [.Subscript (.Attribute (.Name x np) (Str.ofString "attrs") ap) (.Constant (.str key) j kp) sp] e pos) env) Q' E s := by
  have hsl : sizeLine = 16777216 := sizeLine_eq
  obtain ⟨kd, it, at', hb⟩ := isOv_says ho
  obtain ⟨w, h1, h2⟩ := S.at hi hb (fun h => nomatch h)
  refine wpAny_Assign_Subscript (hv hG V hR (S.rel T) hw (fun v p s1 X1 hX1 S1 hp hq => ?_) (S.exc hn HX)) swaps_sub
  have h2' : BRepO σ r X1 M O i (.ov kd it at') w := h2.mono hX1 (fun _ h _ => h) fun _ h => h
  unfold setAIP at hq
  rw [hb] at hq
  cases at' with
  | none => exact False.elim hq
  | some pr =>
    obtain ⟨ks, l⟩ := pr
    cases h2' with
    | mk a d t vi va k2 k3 k5 k6 k7 k8 =>
      obtain ⟨ev, vs, ⟨k4, k12⟩, k8, k9, k10, k11⟩ := k8
      obtain ⟨o, ho, rfl⟩ := S1.st.own _ k5
      obtain ⟨o2, ho2, es, n', rfl, _, _, _, h9⟩ := S1.st.own _ k6
      refine Attribute_any_ (s_name V S1.st h1 (s_get hK (.head _) (.tail _ (.tail _ (.head _))) S1.st ho ho2 h9 fun s2 S2 => r_str S2 fun t2 s3 S3 => ?_)) (attr_plain (fun _ _ _ h => nomatch h))
      have S4 := S.grow hX1 S3
      have D := S3.dictM k8
      have hnd : ks.Nodup := by
        obtain ⟨o, _, hdo⟩ := S3.own _ k8
        obtain ⟨_, _, _, _, _, _, h⟩ := hdo
        rw [zip_fst k10] at h
        exact h
      obtain ⟨vs', z1, z2, z3⟩ := stored_zip (k := key) k10 hnd k11 hp
      refine wpAny_setItem_pairs (knd := strK σ) (strKind_is _ _ _ _) D (fun h' hd hs => ?_) (by rw [List.length_zip, ← k10, Nat.min_self, hsl]; exact Nat.le_trans hq.1 (by decide))
      obtain ⟨o, ho, hdo⟩ := Heap.dictOf_iff.mp hd
      rw [z1] at hdo
      obtain ⟨M', U⟩ := Ch.ex (fun o => o.IsDictOf (strK σ) ((putP ks l key p).1.zip vs')) k8
      have S5 := S3.setMut (s' := { s3 with heap := h', toks := s3.toks + 1 }) U (fun b ob hb e => (hs.2 b hb).trans e) ⟨o, ho, hdo⟩
      have ae := inst_dict_ne S.st k5 k8
      exact H _ _ _ X1 _ _ hX1 (S4.upd (b := .ov kd it (some (putP ks l key p))) T hi h1 k4 U S5 noCell_dict (.mk a d t vi (.ref ev) k2 k3 (U.old ae k5) (U.old k12 k6) k7 (.mk ev vs' ⟨k4, k12⟩ U.new k9 z2 z3))) hq.2
/-- v.attrs = {} if v.attrs is None else v.attrs -/
theorem st_ensA (hK : KOK σ.K) (Pm : Prims σ) (T : CxS cx cs) (V : EnvIs env L cx.ns cs) (S : RelS σ r cx cs ρ O L m Fs M M₀ X s) {x : PySem.Str} {n1 n2 n3 a1 a2 a3 c1 p1 d1 i1 pos : Pos} {j : Nat} {Q' : Flow → Shared → Prop}
    (hi : isVar cx x = some i) {Q : List Bd → Prop} (hw : ensAP i ρ Q) (H : ∀ O' m' M' s' ρ', RelS σ r cx cs ρ' O' L m' Fs M' M₀ X s' → Q ρ' → Q' .next s') :
    wpAny σ.M A (exec (.Assign [.Attribute (.Name x n1) (Str.ofString "attrs") a1] (.IfExp (.Compare (.Attribute (.Name x n2) (Str.ofString "attrs") a2) [.Is] [.Constant .none j c1] p1) (.Dict [] [] d1) (.Attribute (.Name x n3) (Str.ofString "attrs") a3) i1) pos) env) Q' E s := by
  have at_plain : ∀ {y : PySem.Str} {q : Pos}, ∀ f ks p, (Expr.Name y q) ≠ .Call f [] ks p := by intro _ _ _ _ _ h; cases h
  unfold ensAP at hw
  cases hb : ρ[i]? with
  | none => rw [hb] at hw; exact False.elim hw
  | some b =>
    rw [hb] at hw
    cases b with
    | ov kd it at' =>
      obtain ⟨w, h1, h2⟩ := S.at hi hb (fun h => nomatch h)
      refine plainObj_wpAny_Assign_Attribute (IfExp_ (tcmp1 (Attribute_any_ (s_name V S.st h1 (s_getA hK S.st h2 fun dd va s2 S2 h8 => Constant_none ?_)) (attr_plain at_plain)) rfl)) swaps_attr
      cases at' with
      | none =>
        rw [show va = Value.none from h8]
        refine r_isT rfl (wpAny_truthy_bool ?_)
        rw [if_pos rfl]
        refine wpAny_Dict_empty ?_
        have S3 := S2.pushM (P := fun o => o.IsDictOf (strK σ) (([] : List PySem.Str).zip ([] : List Value))) (o := { cls := .type "dict", data := .dict #[] }) d_empty
        refine s_name V S3 (h1.mono fun c w h => .tail _ h) ?_
        exact s_putA Pm T S (Sub.refl _) S3 S2.sm rfl .nil hi hb h1 h2 fun O' m' M' s' S' => H _ _ _ _ _ S' hw
      | some pr =>
        have e0 : ∃ e, va = .ref e := by cases h8 with | mk e vs => exact ⟨e, rfl⟩
        obtain ⟨e0, rfl⟩ := e0
        refine r_isF rfl (wpAny_truthy_bool ?_)
        rw [if_neg (by decide)]
        cases h2 with
        | mk a d t vi va k2 k3 k5 k6 k7 k8 =>
          obtain ⟨o, ho, rfl⟩ := S2.own _ k5
          obtain ⟨o2, ho2, es, n', rfl, _, _, _, h9⟩ := S2.own _ k6
          refine Attribute_any_ (s_name V S2 h1 (s_get hK (.head _) (.tail _ (.tail _ (.head _))) S2 ho ho2 h9 fun s3 S3 => s_name V S3 h1 ?_)) (attr_plain at_plain)
          obtain ⟨e', vs', ⟨k4, k12⟩, k8, k9, k10, k11⟩ := k8
          obtain ⟨M', U⟩ := Ch.ex (VecP (.str kd t) vi (.ref e')) k6
          refine Pm.setA S3 k5 U rfl fun s4 S4 => ?_
          have ad := inst_vec_ne S.st k5 k6
          have S5 := (S.grow (Sub.refl X) S3).upd (b := .ov kd it (some pr)) T hi h1 k3 U S4 noCell_vec (.mk a d t vi (.ref e') k2 k3 (U.old ad k5) U.new k7 (.mk e' vs' ⟨k4, k12⟩ (U.old k12.symm k8) k9 k10 k11))
          have e2 : ρ.set i (.ov kd it (some pr)) = ρ := by
            obtain ⟨h1, h2⟩ := List.getElem?_eq_some_iff.mp hb
            rw [← h2]; exact List.set_getElem_self h1
          rw [e2] at S5
          exact H _ _ _ _ _ S5 hw
    | _ => exact False.elim hw
/-- named(x, e) -/
theorem st_named (Pm : Prims σ) (hv : EvOK σ n) (T : CxS cx cs) (hG : GOK σ cx) (V : EnvIs env L cx.ns cs) (hR : Rm A k (L :: Fs.map (·.1))) (S : RelS σ r cx cs ρ O L m Fs M M₀ X s) (hn : (M₀.map (·.1)).Nodup) {x f : PySem.Str} {fp np pos : Pos} {e : Expr} {Q' : Value → Shared → Prop}
    (hi : isVar cx x = some i) (hg : glo cx f = .fn 293) (hs : noStar [e] = true) (hk : 5 ≤ k) {Q : List Bd → Prop} (ho : isOv ρ[i]?) (hw : wpE (Ct σ) k ρ (compE n cx e) (fun p => namedP i ρ p Q) R)
    (H : ∀ v' O' m' M' X' s' ρ', Sub X X' → RelS σ r cx cs ρ' O' L m' Fs M' M₀ X' s' → Q ρ' → Q' v' s') (HX : PostXS σ L Fs M₀ X R E) :
    wpAny σ.M A (eval (.Call (.Name f fp) [.Name x np, e] [] pos) env) Q' E s := by
  obtain ⟨g1, g2⟩ := glo_fn hg
  obtain ⟨g3, g4⟩ := hG.fn _ _ g2
  have hs2 : noStar [.Name x np, e] = true := hs
  obtain ⟨n1, n2⟩ := noStar_cons hs2
  obtain ⟨kd, it, at', hb⟩ := isOv_says ho
  obtain ⟨w, h1, h2⟩ := S.at hi hb (fun h => nomatch h)
  refine r_callD S.st V g1 g3 g4 (r_items (s_name V S.st h1 (r_items (hv hG V hR (S.rel T) hw (fun v p s1 X1 hX1 S1 hp hq => r_spl0 ⟨S1.st.live, ?_⟩) (S.exc hn HX)) ((noStar_cons n2).1 env))) (n1 env)) (noStar_any hs2 _ _)
  unfold namedP at hq
  rw [hb] at hq
  cases at' with
  | some _ => cases p <;> exact False.elim hq
  | none => cases p with
    | list l => cases h2 with
      | mk a d t vi va k2 k3 k4 k5 k6 k7 =>
        cases (show va = Value.none from k7)
        refine Pm.named S1.st (hR.low hk) S1.row k4 k5 hp hq.1 fun v' ev vs M' X' s' hX' S' hM hd he hne hsm hvl hvs => ?_
        have ad := inst_vec_ne S.st k4 k5
        have S2 := S.grow hX1 S1.st
        have S3 : RelS σ r cx cs (ρ.set i .u) ((i, ev) :: O) L m Fs M' M₀ X' s' := by
          refine S2.re i S' hX' (fun p hp hq => hM p hp fun e => hq _ k3 rfl e.symm) (fun q hq _ => .tail _ hq) (fun q hq => ?_) ?_ fun q hq e => ?_
          · rcases List.mem_cons.mp hq with rfl | hq
            · exact .inr ⟨rfl, hne⟩
            · exact .inl hq
          · refine List.nodup_cons.mpr ⟨fun h => ?_, S.ond⟩
            obtain ⟨q, hq, e⟩ := List.mem_map.mp h
            exact own_ne S hne q hq e
          · rcases List.mem_cons.mp hq with rfl | hq
            · exact ⟨_, he, noCell_dict⟩
            · by_cases e : q.2 = d
              · exact ⟨_, by rw [e]; exact hd, noCell_vec⟩
              · obtain ⟨_, P', h2, h3⟩ := S.oap q hq
                exact ⟨P', hM _ h2 e, h3⟩
        have S4 := S3.bind2 T hi (h1.mono fun c w hc => hM _ hc fun q => S.noTag hc _ k3 q.symm) (b := .ov kd it (some ([Str.ofString "names"], [.vec (Str.ofString "character") (.list l) .none])))
          (.mk a d t vi (.ref ev) (.tail _ k2) (.tail _ k3) (hM _ k4 ad) hd (Rep.mono (hX1.trans hX') _ _ k6) (.mk ev vs ⟨.head _, fun q => hne (by rw [← q]; exact List.mem_map.mpr ⟨_, k5, rfl⟩)⟩ he hsm hvl.symm hvs))
        exact H _ _ _ _ X' _ _ (hX1.trans hX') S4 hq.2
    | _ => exact False.elim hq
end
end Mine

end
section
open PySem PySem.W PySem.Calls PyProof.Rows PySem.Spec
set_option Elab.async false
set_option maxRecDepth 100000
set_option linter.unusedVariables false
namespace Mine
noncomputable def frzρ (i : Nat) (ρ : List Bd) : List Bd := match ρ[i]? with | some b => ρ.set i (frzB b) | none => ρ
section
variable {σ : Sig} {r : Option Addr} {cx : Cx} {cs : List (PySem.Str × Addr)} {ρ : List Bd} {O O' : Own} {A : Around} {E : Value → Shared → Prop} {L : Addr} {m : Know} {Fs : List (Addr × Know)} {M M' M₀ : Mut} {X X' : Led} {s s' : Shared} {env : Env} {i k n : Nat} {R : PySem.Str → Prop}
theorem set_same {b : Bd} (h : ρ[i]? = some b) : ρ.set i b = ρ := by
  obtain ⟨h1, h2⟩ := List.getElem?_eq_some_iff.mp h
  rw [← h2]; exact List.set_getElem_self h1
theorem Holds.frz {x : PySem.Str} {v : Value} {a : Addr} (h : Holds cx.ns cs m M x v) (S : RelS σ r cx cs ρ O L m Fs M M₀ X s) (ha : (i, a) ∈ O) (hM : ∀ p ∈ M, p.1 ≠ a → p ∈ M') : Holds cx.ns cs m M' x v :=
  h.mono fun c w hc => hM _ hc fun e => S.noTag hc _ ha e.symm
theorem st_frz {C : Prop} (T : CxS cx cs) (S : RelS σ r cx cs ρ O L m Fs M M₀ X s) {x : PySem.Str} (hi : isVar cx x = some i) (K : ∀ O' M' X', Sub X X' → RelS σ r cx cs (frzρ i ρ) O' L m Fs M' M₀ X' s → C) : C := by
  unfold frzρ at K
  cases hb : ρ[i]? with
  | none => rw [hb] at K; exact K O M X (Sub.refl X) S
  | some b =>
    rw [hb] at K
    have same : frzB b = b → C := fun e => K O M X (Sub.refl X) (by show RelS σ r cx cs (ρ.set i (frzB b)) O L m Fs M M₀ X s; rw [e, set_same hb]; exact S)
    by_cases hu : b = .u
    · exact same (by rw [hu]; rfl)
    obtain ⟨w, h1, h2⟩ := S.at hi hb hu
    cases b with
    | u => exact same rfl
    | tab => exact same rfl
    | v p => exact same rfl
    | ol l => cases h2 with
      | mk a vs h3 h4 h5 =>
        refine S.freeze h3 h4 fun o M' O' ho S2 hM hO => ?_
        obtain ⟨n', rfl⟩ := ho
        exact K O' M' _ (Sub.cons _ _) (S2.bind2 T hi (h1.frz S h3 hM) (b := .v (.list l)) (repL (.head _) (h5.mono (Sub.cons _ _))))
    | os ks l => cases h2 with
      | mk a vs h3 h4 h5 h6 h7 =>
        refine S.freeze h3 h4 fun o M' O' ho S2 hM hO => ?_
        exact K O' M' _ (Sub.cons _ _) (S2.bind2 T hi (h1.frz S h3 hM) (b := .v (.sd ks l)) (repSd (.head _) h5 h6 ho (h7.mono (Sub.cons _ _))))
    | oi ks => cases h2 with
      | mk a vs h3 h4 h5 h6 =>
        refine S.freeze h3 h4 fun o M' O' ho S2 hM hO => ?_
        exact K O' M' _ (Sub.cons _ _) (S2.bind2 T hi (h1.frz S h3 hM) (b := .v (.idt ks)) (repIdt (r := r) (.head _) h5 h6 ho))
    | ov kd it at' => cases h2 with
      | mk a d t vi va h3 h4 h6 h7 h8 h9 =>
        have ad := inst_vec_ne S.st h6 h7
        refine S.freeze h3 h6 fun o M1 O1 ho S2 hM hO => ?_
        cases (show o = _ from ho)
        have g4 := hO _ h4 ad.symm
        have g7 := hM _ h7 ad.symm
        have hx1 := h1.frz S h3 hM
        refine S2.freeze g4 g7 fun o2 M2 O2 ho2 S3 hM2 hO2 => ?_
        obtain ⟨es, n', rfl, e1, e2, e3, e4⟩ := ho2
        have hx2 := hx1.frz S2 g4 hM2
        rw [set_set] at S3
        cases at' with
        | none =>
          cases (show va = Value.none from h9)
          exact K O2 M2 _ (fun _ h => .tail _ (.tail _ h)) (S3.bind2 T hi hx2 (b := .v (.vec kd it .none)) (repVec (.tail _ (.head _)) (.head _) e2 e3 e4 (Rep.mono (fun _ h => .tail _ (.tail _ h)) _ _ h8) rfl))
        | some p =>
          obtain ⟨e, vs, ⟨h5, h13⟩, h9, h10, h11, h12⟩ := h9
          have ae := inst_dict_ne S.st h6 h9
          have q5 := hO2 _ (hO _ h5 ae.symm) h13.symm
          have q9 := hM2 _ (hM _ h9 ae.symm) h13.symm
          refine S3.freeze q5 q9 fun o3 M3 O3 hd3 S4 hM3 hO3 => ?_
          rw [set_set] at S4
          exact K O3 M3 _ (fun _ h => .tail _ (.tail _ (.tail _ h))) (S4.bind2 T hi (hx2.frz S3 q5 hM3) (b := .v (.vec kd it (.sd p.1 p.2))) (repVec (.tail _ (.tail _ (.head _))) (.tail _ (.head _)) e2 e3 e4 (Rep.mono (fun _ h => .tail _ (.tail _ (.tail _ h))) _ _ h8) (repSd (.head _) h10 h11 hd3 (h12.mono fun _ h => .tail _ (.tail _ (.tail _ h))))))
theorem st_frzs {C : Prop} (T : CxS cx cs) {Q : Fl → List Bd → Prop} {rest : List IS} {X0 : Led} (K : ∀ ρ' O' M' X', Sub X0 X' → RelS σ r cx cs ρ' O' L m Fs M' M₀ X' s → wpSs (Ct σ) k ρ' rest Q R → C) (is : List Nat) : ∀ {ρ : List Bd} {O : Own} {M : Mut} {X : Led}, Sub X0 X → (∀ i ∈ is, ∃ x, isVar cx x = some i) → RelS σ r cx cs ρ O L m Fs M M₀ X s → wpSs (Ct σ) k ρ (is.map .frz ++ rest) Q R → C := by
  induction is with
  | nil => exact fun hX _ S hw => K _ _ _ _ hX S hw
  | cons i is ih =>
    intro ρ O M X hX h S hw
    obtain ⟨x, hx⟩ := h i (.head _)
    exact st_frz T S hx fun O1 M1 X1 hX1 S1 => ih (hX.trans hX1) (fun j hj => h j (.tail _ hj)) S1 hw
theorem st_frzE {C : Prop} (T : CxS cx cs) {e : IE} {rest : List IS} {Q : Fl → List Bd → Prop} (S : RelS σ r cx cs ρ O L m Fs M M₀ X s) (hw : wpSs (Ct σ) k ρ (frzs cx e ++ rest) Q R)
    (K : ∀ ρ' O' M' X', Sub X X' → RelS σ r cx cs ρ' O' L m Fs M' M₀ X' s → wpSs (Ct σ) k ρ' rest Q R → C) : C := by
  refine st_frzs T K _ (Sub.refl X) (fun i hi => ?_) S hw
  obtain ⟨x, _, hx⟩ := List.any_eq_true.mp (List.mem_filter.mp hi).2
  exact ⟨x, beq_iff_eq.mp hx⟩
end
end Mine

end
section
open PySem PySem.W PySem.Calls PyProof.Rows PySem.Spec
set_option Elab.async false
set_option maxRecDepth 100000
set_option linter.unusedVariables false
namespace Mine
section
variable {σ : Sig} {r : Option Addr} {cx : Cx} {cs : List (PySem.Str × Addr)} {ρ : List Bd} {O O' : Own} {A : Around} {E : Value → Shared → Prop} {L C : Addr} {m mC : Know} {Fs Fs' : List (Addr × Know)} {M M' M₀ : Mut} {X X' : Led} {s s' : Shared} {env : Env} {i k n : Nat} {R : PySem.Str → Prop}
/-- the frame and the one it hangs on change places -/
theorem St.swap (S : St σ C mC ((L, m) :: Fs) M X s) : St σ L m ((C, mC) :: Fs) M X s := by
  refine ⟨S.ok, S.gens, S.drawn, S.os, S.W, S.fs (L, m) (.head _), fun p hp => ?_, S.own, S.fz, ?_, fun a ha => S.new a ?_⟩
  · rcases List.mem_cons.mp hp with rfl | hp
    · exact S.cur
    · exact S.fs p (.tail _ hp)
  · have := S.nd
    simp only [List.map_cons, List.cons_append, List.nodup_cons, List.mem_cons, List.mem_append, not_or] at this ⊢
    exact ⟨⟨fun q => this.1.1 q.symm, this.2.1⟩, this.1.2, this.2.2⟩
  · simp only [List.map_cons, List.cons_append, List.mem_cons, List.mem_append] at ha ⊢
    rcases ha with h | h | h
    · exact .inr (.inl h)
    · exact .inl h
    · exact .inr (.inr h)
theorem RelS.reFs (S : RelS σ r cx cs ρ O L m Fs M M₀ X s) (hX : Sub X X') (S' : St σ L m Fs' M X' s') : RelS σ r cx cs ρ O L m Fs' M M₀ X' s' :=
  ⟨S', S.row, fun x i b h1 h2 h3 => let ⟨v, a, c⟩ := S.val x i b h1 h2 h3; ⟨v, a, c.mono hX (fun _ h _ => h) fun _ h => h⟩, S.len, S.keep, S.loc, S.cel, S.ond, S.oap⟩
/-- the value of a comprehension is stored while the comprehension's frame still stands -/
theorem use_ok (T : CxS cx cs) (V : EnvIs env L cx.ns cs) (S : RelS σ r cx cs ρ O L m Fs M M₀ X s) {y : PySem.Str} {py : Pos} {p : PV} {acc : Value} {Q' : Value → Shared → Prop} (hi : isVar cx y = some i) (hX : Sub X X') (hp : Rep σ r X' p acc) (Sd : St σ C mC ((L, m) :: Fs) M X' s')
    (H : ∀ m' M' s'', RelS σ r cx cs (ρ.set i (.v p)) O L m' Fs M' M₀ X' s'' → Q' .none s'') : compPost σ.M A E (some (assign (.Name y py) env)) Q' acc C (.ok .next) s' := by
  have S2 := S.reFs hX Sd.swap
  refine wpAny_assign_Name (S2.store T V hi (b := .v p) hp fun m' M' s'' S3 => ?_)
  obtain ⟨_, mm, hns, _⟩ := S3.st.fs (C, mC) (.head _)
  exact ⟨mm, hns, fun h' hs => H m' M' _ (S3.reFs (Sub.refl _) (S3.st.swap.popBut hs))⟩
theorem st_alc (hv : EvOK σ n) (itv : TvOK σ n) (T : CxS cx cs) (hG : GOK σ cx) (V : EnvIs env L cx.ns cs) (hR : Rm A k (L :: Fs.map (·.1))) (S : RelS σ r cx cs ρ O L m Fs M M₀ X s) (hn : (M₀.map (·.1)).Nodup) {y x : PySem.Str} {py px pos spos : Pos} {elt it : Expr} {ifs : List Expr} {sc : Scope} {rest : List Stmt} {Q' : Flow → Shared → Prop}
    (hi : isVar cx y = some i) (hlk : cx.ns.lookup y = some .local) (hsw : (py.line == pos.line && !(sc.names.any fun (n, k) => n == y && (k == .local || k == .cell))) = true) (hc : compOk cx x sc = true) (hif : ifs.length ≤ 1) {Q : List Bd → Prop}
    (hw : wpE (Ct σ) k ρ (.lc cx.d (compE n (inComp cx x sc) elt) (compE n cx it) (ifs.head?.map (compE n (inComp cx x sc)))) (fun p => Q (ρ.set i (.v p))) R)
    (H : ∀ O' m' M' X' s' ρ', Sub X X' → RelS σ r cx cs ρ' O' L m' Fs M' M₀ X' s' → Q ρ' → wpAny σ.M A (execs rest env) Q' E s') (HX : PostXS σ L Fs M₀ X R E) :
    wpAny σ.M A (execs (.Assign [.Name y py] (.ListComp elt [⟨.Name x px, it, ifs, 0⟩] sc pos) spos :: rest) env) Q' E s := by
  obtain ⟨c1, c2, c3, c4, c5, c6, c7⟩ := compOk_says hc
  obtain ⟨hd, hw⟩ := wr_lc hw
  obtain ⟨cl, e1, e2, _, e4⟩ := clList_ok (cs := cs) sc.names [] (fun _ h => nomatch h) fun y hy => T.cl y (mem_of_lookup (free_cell c1 hy))
  refine x_acomp V (mem_of_lookup hlk) hsw e1 c2 (hv hG V hR (S.rel T) hw (fun v p s1 X1 hX1 S1 hv' h1 => ?_) (S.exc hn HX)) (set_plain' (fun a b c e => ?_) env) c7
  · obtain ⟨l, hl, h1⟩ := h1
    refine s_iter S1.st hv' hl fun a P Vp X₀ s2 W hX0 S2 hval => ?_
    refine lc_core hv itv hG V hR hc hif e2 e4 S1 W hX0 S2 hval h1.1 h1.2 fun ys acc ps X' s' C hX' hst hps hq ⟨mC, S3⟩ => ?_
    obtain ⟨o, ⟨n', rfl⟩, S5⟩ := S3.freeze
    refine use_ok T V S hi (p := .list ps) (hX1.trans (hX'.trans (Sub.cons _ _))) (repL (.head _) (hps.mono (Sub.cons _ _))) S5 fun m' M' s'' S6 => ?_
    exact H _ _ _ _ _ _ (hX1.trans (hX'.trans (Sub.cons _ _))) S6 hq
  · subst e
    cases n <;> exact wr_bad hw
theorem st_adc (hv : EvOK σ n) (T : CxS cx cs) (hG : GOK σ cx) (V : EnvIs env L cx.ns cs) (hR : Rm A k (L :: Fs.map (·.1))) (S : RelS σ r cx cs ρ O L m Fs M M₀ X s) (hn : (M₀.map (·.1)).Nodup) {y x : PySem.Str} {py px pos spos : Pos} {key val it : Expr} {sc : Scope} {rest : List Stmt} {Q' : Flow → Shared → Prop}
    (hi : isVar cx y = some i) (hlk : cx.ns.lookup y = some .local) (hsw : (py.line == pos.line && !(sc.names.any fun (n, k) => n == y && (k == .local || k == .cell))) = true) (hc : compOk cx x sc = true) {Q : List Bd → Prop}
    (hw : wpE (Ct σ) k ρ (.dc cx.d (compE n (inComp cx x sc) key) (compE n (inComp cx x sc) val) (compE n cx it)) (fun p => Q (ρ.set i (.v p))) R)
    (H : ∀ O' m' M' X' s' ρ', Sub X X' → RelS σ r cx cs ρ' O' L m' Fs M' M₀ X' s' → Q ρ' → wpAny σ.M A (execs rest env) Q' E s') (HX : PostXS σ L Fs M₀ X R E) :
    wpAny σ.M A (execs (.Assign [.Name y py] (.DictComp key val [⟨.Name x px, it, [], 0⟩] sc pos) spos :: rest) env) Q' E s := by
  obtain ⟨c1, c2, c3, c4, c5, c6, c7⟩ := compOk_says hc
  obtain ⟨hd, hw⟩ := wr_dc hw
  obtain ⟨cl, e1, e2, _, e4⟩ := clList_ok (cs := cs) sc.names [] (fun _ h => nomatch h) fun y hy => T.cl y (mem_of_lookup (free_cell c1 hy))
  have hsw' : swapsWith (.DictComp key val [⟨.Name x px, it, [], 0⟩] sc pos) (some (.Name y py)) spos.line env = pure true := by
    have h2 : env.kindOf y = some .local := V.look _ (mem_of_lookup hlk)
    have h3 : env.blockKind = .function := by
      unfold Env.blockKind; rw [V.kind]; rfl
    show (pure (env.blockKind == .function && env.kindOf y == some .local && py.line == pos.line && !(sc.names.any fun (n, k) => n == y && (k == .local || k == .cell))) : Sem Bool) = pure true
    rw [h2, h3]
    rw [Bool.and_assoc, hsw]
    rfl
  refine wpAny_execs_cons ?_
  rw [exec_Assign_Name_used _ _ _ _ hsw']
  refine wpAny_bind (wpAny_standAt (wpAny_bind ?_))
  show wpAny _ A (do let _ ← comprehension (.DictComp key val [⟨.Name x px, it, [], 0⟩] sc pos) sc env _ newDict false (eval it env) (some (assign (.Name y py) env))) _ _ s
  refine wpAny_bind (wpAny_mono (wpAny_comprehension_free (use := some (assign (.Name y py) env)) (Q := fun _ s' => wpAny σ.M A (execs rest env) Q' E s') rfl (set_plain' (fun a b c e => ?_) env) (closure_of (by rw [V.cells]; exact e1)) c7 (fun y hy hl => hl ▸ lookNames.says c2 y hy)
    (hv hG V hR (S.rel T) hw (fun v p s1 X1 hX1 S1 hv' h1 => ?_) (S.exc hn HX))) (fun _ s' hq => wpAny_pure (wpAny_pure hq)) fun _ _ e => e)
  · subst e
    cases n <;> exact wr_bad hw
  · obtain ⟨l, hl, h1⟩ := h1
    refine s_iter S1.st hv' hl fun a P Vp X₀ s2 W hX0 S2 hval => ?_
    refine dc_core hv hG V hR hc e2 e4 S1 W hX0 S2 hval h1.1 (fun _ _ h => h) (fun _ _ h => h) h1.2 fun ks ps vs acc X' s' C mC hX hsm hkv hps hwd Sd => ?_
    obtain ⟨o, hdo, S5⟩ := Sd.freeze
    refine use_ok T V S hi (p := .sd ks ps) (hX1.trans (hX.trans (Sub.cons _ _))) ?_ S5 fun m' M' s'' S6 => ?_
    · exact repSd (.head _) hsm hkv hdo (hps.mono (Sub.cons _ _))
    · exact H _ _ _ _ _ _ (hX1.trans (hX.trans (Sub.cons _ _))) S6 hwd
end
end Mine

end
section
open PySem PySem.W PySem.Calls PyProof.Rows PySem.Spec
set_option Elab.async false
set_option maxRecDepth 100000
set_option linter.unusedVariables false
namespace Mine
section
variable {σ : Sig} {r : Option Addr} {cx : Cx} {cs : List (PySem.Str × Addr)} {ρ : List Bd} {O O' : Own} {A : Around} {E : Value → Shared → Prop} {L C : Addr} {m mC : Know} {Fs Fs' : List (Addr × Know)} {M M' M₀ M₁ : Mut} {X X' : Led} {s s' : Shared} {env : Env} {i k n : Nat} {R : PySem.Str → Prop}
theorem RelS.less (S : RelS σ r cx cs ρ O L m Fs M M₁ X s) (h : ∀ p ∈ M₀, p ∈ M₁) (hr : ∀ a, r = some a → (a, RowO) ∈ M₀) : RelS σ r cx cs ρ O L m Fs M M₀ X s := by
  have hm : ∀ b, b ∈ M₀.map (·.1) → b ∈ M₁.map (·.1) := fun b hb => by
    obtain ⟨p, hp, e⟩ := List.mem_map.mp hb
    exact List.mem_map.mpr ⟨p, h p hp, e⟩
  exact ⟨S.st, hr, S.val, S.len, fun p hp => S.keep p (h p hp), S.loc, fun x c h1 h2 => ⟨(S.cel x c h1 h2).1, fun q => (S.cel x c h1 h2).2 (hm _ q)⟩, S.ond, fun q hq => ⟨fun q' => (S.oap q hq).1 (hm _ q'), (S.oap q hq).2⟩⟩
/-- an object that is none of ours comes to what is kept -/
theorem RelS.addI {a : Addr} {P : Obj → Prop} (S : RelS σ r cx cs ρ O L m Fs M M₀ X s) (S' : St σ L m Fs ((a, P) :: M) X s') : RelS σ r cx cs ρ O L m Fs ((a, P) :: M) ((a, P) :: M₀) X s' := by
  have ha : a ∉ M.map (·.1) := (List.nodup_cons.mp S'.mnd).1
  refine ⟨S', fun b h => .tail _ (S.row b h), fun x j b h1 h2 h3 => ?_, S.len, fun p hp => ?_, S.loc, fun x c h1 h2 => ?_, S.ond, fun q hq => ?_⟩
  · obtain ⟨v, h4, h5⟩ := S.val x j b h1 h2 h3
    exact ⟨v, h4.mono fun c w h => .tail _ h, h5.mono (Sub.refl X) (fun p hp _ => .tail _ hp) fun _ h => h⟩
  · rcases List.mem_cons.mp hp with rfl | hp
    · exact .head _
    · exact .tail _ (S.keep p hp)
  · obtain ⟨⟨v, h3⟩, h4⟩ := S.cel x c h1 h2
    refine ⟨⟨v, .tail _ h3⟩, fun q => ?_⟩
    rcases List.mem_cons.mp q with rfl | q
    · exact ha (List.mem_map.mpr ⟨_, h3, rfl⟩)
    · exact h4 q
  · obtain ⟨h1, P', h2, h3⟩ := S.oap q hq
    refine ⟨fun q' => ?_, P', .tail _ h2, h3⟩
    rcases List.mem_cons.mp q' with e | q'
    · exact ha (by rw [← show q.2 = a from e]; exact List.mem_map.mpr ⟨_, h2, rfl⟩)
    · exact h1 q'
/-- and is taken out again -/
theorem RelS.outI {a : Addr} {P : Obj → Prop} (T : CxS cx cs) (S : RelS σ r cx cs ρ O L m Fs M ((a, P) :: M₀) X s) (hr : ∀ a, r = some a → (a, RowO) ∈ M₀) (hnd : (((a, P) :: M₀).map (·.1)).Nodup) : ∃ M', St σ L m Fs ((a, P) :: M') X s ∧ ∀ s2, St σ L m Fs M' X s2 → RelS σ r cx cs ρ O L m Fs M' M₀ X s2 := by
  obtain ⟨l1, l2, rfl⟩ := List.append_of_mem (S.keep _ (.head _))
  have Sp := S.st.permM (M' := (a, P) :: (l1 ++ l2)) List.perm_middle
  have hne : ∀ p ∈ l1 ++ (a, P) :: l2, p.1 ≠ a → p ∈ l1 ++ l2 := fun p hp h => by
    rcases List.mem_append.mp hp with hp | hp
    · exact List.mem_append_left _ hp
    · rcases List.mem_cons.mp hp with rfl | hp
      · exact absurd rfl h
      · exact List.mem_append_right _ hp
  refine ⟨l1 ++ l2, Sp, fun s2 S2 => ⟨S2, hr, fun x j b h1 h2 h3 => ?_, S.len, fun p hp => ?_, S.loc, fun x c h1 h2 => ?_, S.ond, fun q hq => ?_⟩⟩
  · obtain ⟨v, h4, h5⟩ := S.val x j b h1 h2 h3
    refine ⟨v, ?_, h5.mono (Sub.refl X) (fun p hp hq => hne p hp fun e => (S.oap _ hq).1 (by rw [show p.1 = a from e]; exact .head _)) fun _ h => h⟩
    rcases h4 with h | ⟨g1, c, g2, g3⟩
    · exact .inl h
    · refine .inr ⟨g1, c, g2, hne _ g3 fun e => ?_⟩
      rcases g1 with g1 | g1
      · exact (S.cel _ _ g1 g2).2 (by rw [show c = a from e]; exact .head _)
      · exact T.nofree _ g1
  · refine hne p (S.keep p (.tail _ hp)) fun e => ?_
    exact (List.nodup_cons.mp hnd).1 (by rw [← show p.1 = a from e]; exact List.mem_map.mpr ⟨p, hp, rfl⟩)
  · obtain ⟨⟨v, h3⟩, h4⟩ := S.cel x c h1 h2
    exact ⟨⟨v, hne _ h3 fun e => h4 (by rw [show c = a from e]; exact .head _)⟩, fun q => h4 (.tail _ q)⟩
  · obtain ⟨h1, P', h2, h3⟩ := S.oap q hq
    exact ⟨fun q' => h1 (.tail _ q'), P', hne _ h2 fun e => h1 (by rw [show q.2 = a from e]; exact .head _), h3⟩
theorem four_no {a b c d : Bool} (h : a = true → b = true → c = true → d = false → False) : (a && b && c && !d) = false := by
  cases a with
  | false => rfl
  | true => cases b with
    | false => rfl
    | true => cases c with
      | false => rfl
      | true => cases d with
        | true => rfl
        | false => exact (h rfl rfl rfl rfl).elim
theorem loc_of {q : NameKind} (h : (some q == some NameKind.local) = true) : q = .local := by cases q <;> first | rfl | exact nomatch h
/-- a store into a name: no comprehension, or one whose value is stored by the ordinary road -/
theorem swaps_name {e : Expr} {x : PySem.Str} {px : Pos} {l : Nat} (V : EnvIs env L cx.ns cs) {q : NameKind} (hx : cx.ns.lookup x = some q) (h : (∀ a b sc p, e = .ListComp a b sc p → (q = .local ∧ px.line = p.line ∧ (sc.names.any fun (n, k) => n == x && (k == .local || k == .cell)) = false) → False) ∧
    (∀ a b c sc p, e = .DictComp a b c sc p → (q = .local ∧ px.line = p.line ∧ (sc.names.any fun (n, k) => n == x && (k == .local || k == .cell)) = false) → False) ∧ (∀ a b sc p, e ≠ .SetComp a b sc p)) : swapsWith e (some (.Name x px)) l env = pure false := by
  have h2 : env.kindOf x = some q := V.look _ (mem_of_lookup hx)
  obtain ⟨ha, hb, hc⟩ := h
  unfold swapsWith
  cases e with
  | ListComp a b sc p => exact congrArg (pure : Bool → Sem Bool) (four_no fun _ k2 k3 k4 => ha a b sc p rfl ⟨loc_of (h2 ▸ k2), beq_iff_eq.mp k3, k4⟩)
  | DictComp a b c sc p => exact congrArg (pure : Bool → Sem Bool) (four_no fun _ k2 k3 k4 => hb a b c sc p rfl ⟨loc_of (h2 ▸ k2), beq_iff_eq.mp k3, k4⟩)
  | SetComp a b sc p => exact absurd rfl (hc _ _ _ _)
  | _ => rfl
end
end Mine

end
section
open PySem PySem.W PySem.Calls PyProof.Rows PySem.Spec
set_option Elab.async false
set_option maxRecDepth 100000
set_option linter.unusedVariables false
namespace Mine
section
variable {σ : Sig} {r : Option Addr} {cx : Cx} {cs : List (PySem.Str × Addr)} {ρ : List Bd} {O O' : Own} {A : Around} {E : Value → Shared → Prop} {L C : Addr} {m mC : Know} {Fs Fs' : List (Addr × Know)} {M M' M₀ M₁ : Mut} {X X' : Led} {s s' : Shared} {env : Env} {i k n : Nat} {R : PySem.Str → Prop}
theorem isVar_look {x : PySem.Str} (h : isVar cx x = some i) : ∃ q, cx.ns.lookup x = some q ∧ q ≠ .globalImplicit := by
  unfold isVar at h
  split at h
  · rename_i e; exact ⟨_, e, by simp⟩
  · rename_i e; exact ⟨_, e, by simp⟩
  · rename_i e; exact ⟨_, e, by simp⟩
  · cases h
theorem st_assign (hv : ∀ n, EvOK σ n) (itv : ∀ n, TvOK σ n) (T : CxS cx cs) (hG : GOK σ cx) (V : EnvIs env L cx.ns cs) (hR : Rm A k (L :: Fs.map (·.1))) (S : RelS σ r cx cs ρ O L m Fs M M₀ X s) (hn : (M₀.map (·.1)).Nodup) {y : PySem.Str} {py spos : Pos} {e : Expr} {rest : List Stmt} {Q' : Flow → Shared → Prop}
    (hi : isVar cx y = some i) {Q : List Bd → Prop} (hw : wpE (Ct σ) k ρ (compE (n + 1) cx e) (fun p => Q (ρ.set i (.v p))) R)
    (H : ∀ O' m' M' X' s' ρ', Sub X X' → RelS σ r cx cs ρ' O' L m' Fs M' M₀ X' s' → Q ρ' → wpAny σ.M A (execs rest env) Q' E s') (HX : PostXS σ L Fs M₀ X R E) :
    wpAny σ.M A (execs (.Assign [.Name y py] e spos :: rest) env) Q' E s := by
  obtain ⟨q, hq, _⟩ := isVar_look hi
  have plain : swapsWith e (some (.Name y py)) spos.line env = pure false → wpAny σ.M A (execs (.Assign [.Name y py] e spos :: rest) env) Q' E s := fun hs =>
    x_assign (st_asg (hv _) T hG V hR S hn (px := py) (pos := spos) hi hw H HX) hs
  have hset : ∀ a b sc p, e ≠ .SetComp a b sc p := by
    rintro a b sc p rfl
    exact wr_bad hw
  by_cases h1 : ∃ a b sc p, e = .ListComp a b sc p ∧ (q = .local ∧ py.line = p.line ∧ (sc.names.any fun (n, k) => n == y && (k == .local || k == .cell)) = false)
  · obtain ⟨a, b, sc, p, rfl, hl, hp, ha⟩ := h1
    subst hl
    have hsw : (py.line == p.line && !(sc.names.any fun (n, k) => n == y && (k == .local || k == .cell))) = true := by rw [ha]; simpa using hp
    refine armL_says (C := fun gs => wpAny σ.M A (execs (.Assign [.Name y py] (.ListComp a gs sc p) spos :: rest) env) Q' E s) (P := fun ir => wpE (Ct σ) k ρ ir (fun p => Q (ρ.set i (.v p))) R) hw (fun h => wr_bad h) fun x px it' ifs hc hif hw => ?_
    exact st_alc (hv _) (itv _) T hG V hR S hn hi hq hsw hc hif hw H HX
  · by_cases h2 : ∃ a b c sc p, e = .DictComp a b c sc p ∧ (q = .local ∧ py.line = p.line ∧ (sc.names.any fun (n, k) => n == y && (k == .local || k == .cell)) = false)
    · obtain ⟨a, b, c, sc, p, rfl, hl, hp, ha⟩ := h2
      subst hl
      have hsw : (py.line == p.line && !(sc.names.any fun (n, k) => n == y && (k == .local || k == .cell))) = true := by rw [ha]; simpa using hp
      refine armDc_says (C := fun gs => wpAny σ.M A (execs (.Assign [.Name y py] (.DictComp a b gs sc p) spos :: rest) env) Q' E s) (P := fun ir => wpE (Ct σ) k ρ ir (fun p => Q (ρ.set i (.v p))) R) hw (fun h => wr_bad h) fun x px it' hc hw => ?_
      exact st_adc (hv _) T hG V hR S hn hi hq hsw hc hw H HX
    · exact plain (swaps_name V hq ⟨fun a b sc p e h => h1 ⟨a, b, sc, p, e, h⟩, fun a b c sc p e h => h2 ⟨a, b, c, sc, p, e, h⟩, hset⟩)
end
end Mine

end
section
open PySem PySem.W PySem.Calls PyProof.Rows PySem.Spec
set_option Elab.async false
set_option maxRecDepth 100000
set_option linter.unusedVariables false
namespace Mine
noncomputable def SvOK (σ : Sig) (n : Nat) : Prop := ∀ {r : Option Addr} {cx : Cx} {cs : List (PySem.Str × Addr)} {k : Nat} {ρ : List Bd} {O : Own} {L : Addr} {m : Know} {Fs : List (Addr × Know)} {M M₀ : Mut} {X : Led} {s : Shared} {env : Env} {A : Around} {E : Value → Shared → Prop} {ss : List Stmt}
  {Q : Fl → List Bd → Prop} {R : PySem.Str → Prop} {Q' : Flow → Shared → Prop}, CxS cx cs → GOK σ cx → EnvIs env L cx.ns cs → EnvT cx env → Rm A k (L :: Fs.map (·.1)) → RelS σ r cx cs ρ O L m Fs M M₀ X s → (M₀.map (·.1)).Nodup →
  wpSs (Ct σ) k ρ (compSs n cx ss) Q R → PostS σ r cx cs L Fs M₀ X Q Q' → PostXS σ L Fs M₀ X R E → wpAny σ.M A (execs ss env) Q' E s
section
variable {σ : Sig}
theorem inter_no {env : Env} {L : Addr} {ns : List (PySem.Str × NameKind)} {cs : List (PySem.Str × Addr)} (V : EnvIs env L ns cs) : interactive env = false := by
  unfold interactive; rw [V.kind]; rfl
noncomputable def RhsIs (e : Expr) : Rhs → Prop
  | .l0 => ∃ p, e = .List [] p
  | .d0 => ∃ p, e = .Dict [] [] p
  | .lam g b sc => ∃ gp lp cp, e = .Call (.Name g gp) [.Lambda ⟨[], [], none, [], [], none, []⟩ b sc lp] [] cp
  | .two g a b => ∃ gp cp, e = .Call (.Name g gp) [a, b] [] cp
  | .o => True
theorem rhs_is (e : Expr) : RhsIs e (rhsOf e) := by
  refine vwE (P := fun e v => RhsIs e (rhsV v)) (fun v => ?_) e
  cases v with
  | lst es p => cases es with
    | nil => exact ⟨p, rfl⟩
    | cons _ _ => trivial
  | dict ks vs p => cases ks with
    | nil => cases vs with
      | nil => exact ⟨p, rfl⟩
      | cons _ _ => trivial
    | cons _ _ => trivial
  | call g es ks p => cases ks with
    | cons _ _ => trivial
    | nil =>
      show RhsIs _ (onE (asName g) .o fun x => rhsC x es)
      cases hx : asName g with
      | none => trivial
      | some x =>
        obtain ⟨gp, rfl⟩ := asName_eq hx
        show RhsIs _ (onE (one? es) (onE (two? es) .o fun p => .two x p.1 p.2) fun l => onE (asLam l) .o fun p => .lam x p.1 p.2)
        cases hl : one? es with
        | some l =>
          show RhsIs _ (onE (asLam l) .o fun p => .lam x p.1 p.2)
          cases hq : asLam l with
          | none => trivial
          | some q =>
            obtain ⟨lp, rfl⟩ := asLam_eq hq
            exact one_eq hl ▸ ⟨gp, lp, p, rfl⟩
        | none =>
          show RhsIs _ (onE (two? es) .o fun p => .two x p.1 p.2)
          cases hq : two? es with
          | none => trivial
          | some q => exact two_eq hq ▸ ⟨gp, p, rfl⟩
  | _ => trivial
theorem st_frzA {C : Prop} {r : Option Addr} {cx : Cx} {cs : List (PySem.Str × Addr)} {k : Nat} {ρ : List Bd} {O : Own} {L : Addr} {m : Know} {Fs : List (Addr × Know)} {M M₀ : Mut} {X : Led} {s : Shared} {R : PySem.Str → Prop} (T : CxS cx cs) {e : IE} {l rest : List IS} {Q : Fl → List Bd → Prop} (S : RelS σ r cx cs ρ O L m Fs M M₀ X s) (hw : wpSs (Ct σ) k ρ ((frzs cx e ++ l) ++ rest) Q R)
    (K : ∀ ρ' O' M' X', Sub X X' → RelS σ r cx cs ρ' O' L m Fs M' M₀ X' s → wpSs (Ct σ) k ρ' (l ++ rest) Q R → C) : C := by
  rw [List.append_assoc] at hw
  exact st_frzE T S hw K
section
variable {r : Option Addr} {cx : Cx} {cs : List (PySem.Str × Addr)} {k : Nat} {ρ : List Bd} {O : Own} {L : Addr} {m : Know} {Fs : List (Addr × Know)} {M M₀ : Mut} {X : Led} {s : Shared} {env : Env} {A : Around} {E : Value → Shared → Prop} {rest : List Stmt}
  {Q : Fl → List Bd → Prop} {R : PySem.Str → Prop} {Q' : Flow → Shared → Prop} {n : Nat} {G : List IS}
theorem optL {α : Type} {o : Option α} {g : α → List IS} {C : Prop} (h : wpSs (Ct σ) k ρ (onL o g ++ G) Q R) (K : ∀ a, o = some a → wpSs (Ct σ) k ρ (g a ++ G) Q R → C) : C := by
  cases o with
  | none => exact False.elim h
  | some a => exact K a rfl h
theorem ifL {c : Bool} {a : List IS} (h : wpSs (Ct σ) k ρ ((if c = true then a else [.bad]) ++ G) Q R) : c = true ∧ wpSs (Ct σ) k ρ (a ++ G) Q R := by
  cases c with
  | true => exact ⟨rfl, h⟩
  | false => exact False.elim h
/-- the statements that follow -/
noncomputable abbrev Cont (σ : Sig) (r : Option Addr) (cx : Cx) (cs : List (PySem.Str × Addr)) (k : Nat) (L : Addr) (Fs : List (Addr × Know)) (M₀ : Mut) (X : Led) (A : Around) (E : Value → Shared → Prop) (rest : List Stmt) (env : Env) (G : List IS) (Q : Fl → List Bd → Prop) (R : PySem.Str → Prop) (Q' : Flow → Shared → Prop) : Prop :=
  ∀ {O' : Own} {m' : Know} {M' : Mut} {X' : Led} {s' : Shared} {ρ' : List Bd}, Sub X X' → RelS σ r cx cs ρ' O' L m' Fs M' M₀ X' s' → wpSs (Ct σ) k ρ' G Q R → wpAny σ.M A (execs rest env) Q' E s'
theorem sn_ok {x : PySem.Str} {px pos : Pos} {e : Expr} (hK : KOK σ.K) (Pm : Prims σ) (hv : ∀ n, EvOK σ n) (itv : ∀ n, TvOK σ n) (T : CxS cx cs) (hG : GOK σ cx) (V : EnvIs env L cx.ns cs) (hT : EnvT cx env) (hR : Rm A k (L :: Fs.map (·.1))) (S : RelS σ r cx cs ρ O L m Fs M M₀ X s) (hn : (M₀.map (·.1)).Nodup)
    (hw : wpSs (Ct σ) k ρ (stName cx x e ++ G) Q R) (cont : Cont σ r cx cs k L Fs M₀ X A E rest env G Q R Q') (HX : PostXS σ L Fs M₀ X R E) : wpAny σ.M A (execs (.Assign [.Name x px] e pos :: rest) env) Q' E s := by
  refine optL hw fun i hi hw => ?_
  have gen : wpSs (Ct σ) k ρ (stAsg cx i e ++ G) Q R → wpAny σ.M A (execs (.Assign [.Name x px] e pos :: rest) env) Q' E s := fun hw =>
    st_frzA T S hw fun ρ1 O1 M1 X1 hX1 S1 hw => st_assign hv itv T hG V hR S1 hn hi (n := 59) (Q := fun ρ' => wpSs (Ct σ) k ρ' G Q R) hw (fun O' m' M' X' s' ρ' hX S' hq => cont (hX1.trans hX) S' hq) (HX.mono hX1)
  have hs := rhs_is e
  unfold stRhs at hw
  generalize rhsOf e = q at hw hs
  cases q with
  | l0 => obtain ⟨p, rfl⟩ := hs; exact x_assign (st_newL T V S hi fun O' m' M' s' S' => cont (Sub.refl X) S' hw)
  | d0 => obtain ⟨p, rfl⟩ := hs; exact x_assign (st_newD T V S hi fun O' m' M' s' S' => cont (Sub.refl X) S' hw)
  | lam g b sc =>
    obtain ⟨gp, lp, cp, rfl⟩ := hs
    obtain ⟨hc, hw⟩ := ifL hw
    obtain ⟨h1, h2⟩ := (Bool.and_eq_true _ _).mp hc
    obtain ⟨h2, h3⟩ := (Bool.and_eq_true _ _).mp h2
    refine st_frzA T S hw fun ρ1 O1 M1 X1 hX1 S1 hw => ?_
    obtain ⟨w1, w2, w3⟩ := ss_keep hw
    exact x_assign (Pm.keep (px := px) T hG V hT h3 hR S1 hn hi (isFn_eq h1) h2 w1 w2 (Q := fun ρ' => wpSs (Ct σ) k ρ' G Q R) w3 fun O' m' M' X' s' ρ' hX S' hq => cont (hX1.trans hX) S' hq)
  | two g a b =>
    have hw : wpSs (Ct σ) k ρ ((if (cx.own.contains x && (isFn (glo cx g) 246 && noStar [a, b])) = true then stNewV cx i a b else stAsg cx i e) ++ G) Q R := hw
    cases hc : cx.own.contains x && (isFn (glo cx g) 246 && noStar [a, b]) with
    | false => rw [hc] at hw; exact gen hw
    | true =>
      rw [hc] at hw
      obtain ⟨gp, cp, rfl⟩ := hs
      obtain ⟨_, hc⟩ := (Bool.and_eq_true _ _).mp hc
      obtain ⟨h1, h2⟩ := (Bool.and_eq_true _ _).mp hc
      refine st_frzA T S hw fun ρ1 O1 M1 X1 hX1 S1 hw => ?_
      refine st_frzA T S1 hw fun ρ2 O2 M2 X2 hX2 S2 hw => ?_
      exact x_assign (st_newV Pm (hv 59) T hG V hR S2 hn (px := px) (pos := cp) hi (isFn_eq h1) h2 (Q := fun ρ' => wpSs (Ct σ) k ρ' G Q R) hw (fun O' m' M' X' s' ρ' hX S' hq => cont (hX1.trans (hX2.trans hX)) S' hq) (HX.mono (hX1.trans hX2)))
  | o => exact gen hw
theorem isOd_says {o : Option Bd} (ho : isOd o) : ∃ b, o = some b ∧ b ≠ .u := by
  cases o with
  | none => exact False.elim ho
  | some b => exact ⟨b, rfl, fun e => by rw [e] at ho; exact False.elim ho⟩
theorem sa_ok {t e : Expr} {pos : Pos} (hK : KOK σ.K) (Pm : Prims σ) (hv : ∀ n, EvOK σ n) (itv : ∀ n, TvOK σ n) (T : CxS cx cs) (hG : GOK σ cx) (V : EnvIs env L cx.ns cs) (hT : EnvT cx env) (hR : Rm A k (L :: Fs.map (·.1))) (S : RelS σ r cx cs ρ O L m Fs M M₀ X s) (hn : (M₀.map (·.1)).Nodup)
    (hw : wpSs (Ct σ) k ρ (stAssign cx t e ++ G) Q R) (cont : Cont σ r cx cs k L Fs M₀ X A E rest env G Q R Q') (HX : PostXS σ L Fs M₀ X R E) : wpAny σ.M A (execs (.Assign [t] e pos :: rest) env) Q' E s := by
  cases t with
  | Name x px => exact sn_ok hK Pm hv itv T hG V hT hR S hn hw cont HX
  | Attribute a f ap =>
    refine optL hw fun x hx hw => ?_
    obtain ⟨hf, hw⟩ := ifL hw
    refine optL hw fun i hi hw => ?_
    obtain ⟨xp, ex⟩ := asName_eq hx
    rw [beq_iff_eq.mp hf, ex]
    have hw : wpSs (Ct σ) k ρ (onE (asD1 e) (if isEns x e = true then [.ensA i] else [.bad]) (fun p => frzs cx (compE 60 cx p.2) ++ [.setA i p.1 (compE 60 cx p.2)]) ++ G) Q R := hw
    cases hp : asD1 e with
    | some p =>
      rw [hp] at hw
      obtain ⟨j, q, r', ed⟩ := asD1_eq hp
      rw [ed]
      refine st_frzA T S hw fun ρ1 O1 M1 X1 hX1 S1 hw => ?_
      obtain ⟨w1, w2⟩ := ss_setA hw
      exact wpAny_execs_cons (st_setA Pm (hv 60) T hG V hR S1 hn hi (Q := fun ρ' => wpSs (Ct σ) k ρ' G Q R) w1 w2 (fun O' m' M' X' s' ρ' hX S' hq => cont (hX1.trans hX) S' hq) (HX.mono hX1))
    | none =>
      rw [hp] at hw
      obtain ⟨hc, hw⟩ := ifL hw
      obtain ⟨p1, p2, j, p3, p4, p5, p6, p7, p8, ed⟩ := isEns_eq hc
      rw [ed]
      exact wpAny_execs_cons (st_ensA hK Pm T V S hi (Q := fun ρ' => wpSs (Ct σ) k ρ' G Q R) hw fun O' m' M' s' ρ' S' hq => cont (Sub.refl X) S' hq)
  | Subscript a key sp =>
    have hw : wpSs (Ct σ) k ρ (onE (attrsOf a) (onL (asName a) fun x => onL (isVar cx x) fun i => stItem cx i key e) (fun x => onL (isVar cx x) fun i => stItemA cx i key e) ++ G) Q R := hw
    cases hx : attrsOf a with
    | some x =>
      rw [hx] at hw
      obtain ⟨p, q, ea⟩ := attrsOf_eq hx
      rw [ea]
      have hw : wpSs (Ct σ) k ρ ((onL (isVar cx x) fun i => stItemA cx i key e) ++ G) Q R := hw
      refine optL hw fun i hi hw => ?_
      refine optL hw fun kk hk hw => ?_
      obtain ⟨j, kp, ek⟩ := asStr_eq hk
      rw [ek]
      refine st_frzA T S hw fun ρ1 O1 M1 X1 hX1 S1 hw => ?_
      obtain ⟨w1, w2⟩ := ss_setAI hw
      exact wpAny_execs_cons (st_setAI hK (hv 60) T hG V hR S1 hn hi (Q := fun ρ' => wpSs (Ct σ) k ρ' G Q R) w1 w2 (fun O' m' M' X' s' ρ' hX S' hq => cont (hX1.trans hX) S' hq) (HX.mono hX1))
    | none =>
      rw [hx] at hw; clear hx
      have hw : wpSs (Ct σ) k ρ ((onL (asName a) fun x => onL (isVar cx x) fun i => stItem cx i key e) ++ G) Q R := hw
      refine optL hw fun x hx hw => ?_
      obtain ⟨xp, ex⟩ := asName_eq hx
      rw [ex]
      refine optL hw fun i hi hw => ?_
      refine st_frzA T S hw fun ρ1 O1 M1 X1 hX1 S1 hw => ?_
      refine st_frzA T S1 hw fun ρ2 O2 M2 X2 hX2 S2 hw => ?_
      obtain ⟨ho, hw⟩ := ss_seti hw
      exact wpAny_execs_cons (st_seti (hv 60) T hG V hR S2 hn hi (Q := fun ρ' => wpSs (Ct σ) k ρ' G Q R) (isOd_says ho) hw (fun O' m' M' X' s' ρ' hX S' hq => cont (hX1.trans (hX2.trans hX)) S' hq) (HX.mono (hX1.trans hX2)))
  | _ => exact False.elim hw
theorem sx_ok {e : Expr} {pos : Pos} (hK : KOK σ.K) (Pm : Prims σ) (hv : ∀ n, EvOK σ n) (T : CxS cx cs) (hG : GOK σ cx) (V : EnvIs env L cx.ns cs) (hR : Rm A k (L :: Fs.map (·.1))) (S : RelS σ r cx cs ρ O L m Fs M M₀ X s) (hn : (M₀.map (·.1)).Nodup)
    (hw : wpSs (Ct σ) k ρ (stX cx e ++ G) Q R) (cont : Cont σ r cx cs k L Fs M₀ X A E rest env G Q R Q') (HX : PostXS σ L Fs M₀ X R E) : wpAny σ.M A (execs (.Expr e pos :: rest) env) Q' E s := by
  cases e with
  | Call g es ks p =>
    obtain ⟨hk, hw⟩ := ifL hw
    rw [List.isEmpty_iff.mp hk]
    cases g with
    | Attribute a f ap =>
      refine optL hw fun x hx hw => ?_
      refine optL hw fun i hi hw => ?_
      refine optL hw fun e he hw => ?_
      obtain ⟨hc, hw⟩ := ifL hw
      obtain ⟨hf, hc⟩ := (Bool.and_eq_true _ _).mp hc
      obtain ⟨hl, hs⟩ := (Bool.and_eq_true _ _).mp hc
      obtain ⟨xp, ex⟩ := asName_eq hx
      rw [ex, one_eq he, beq_iff_eq.mp hf]
      refine st_frzA T S hw fun ρ1 O1 M1 X1 hX1 S1 hw => ?_
      obtain ⟨w1, w2⟩ := ss_app hw
      exact x_expr (st_app (hv 60) T hG V hR S1 hn hi hl hs (Q := fun ρ' => wpSs (Ct σ) k ρ' G Q R) w1 w2 (fun O' m' M' X' s' ρ' hX S' hq => ⟨rfl, cont (hX1.trans hX) S' hq⟩) (HX.mono hX1)) (inter_no V) rfl
    | Name f fp =>
      refine optL hw fun q hq hw => ?_
      refine optL hw fun x hx hw => ?_
      refine optL hw fun i hi hw => ?_
      obtain ⟨hc, hw⟩ := ifL hw
      obtain ⟨hg, hs⟩ := (Bool.and_eq_true _ _).mp hc
      obtain ⟨xp, hx⟩ := asName_eq hx
      rw [two_eq hq, hx]
      refine st_frzA T S hw fun ρ1 O1 M1 X1 hX1 S1 hw => ?_
      obtain ⟨w1, w2, w3⟩ := ss_named hw
      exact wpAny_execs_cons (wpAny_Expr_any (st_named Pm (hv 60) T hG V hR S1 hn hi (isFn_eq hg) hs w1 (Q := fun ρ' => wpSs (Ct σ) k ρ' G Q R) w2 w3 (fun v' O' m' M' X' s' ρ' hX S' hq => cont (hX1.trans hX) S' hq) (HX.mono hX1)) (inter_no V) rfl)
    | _ => exact False.elim hw
  | _ => exact False.elim hw
theorem sr_ok {o : Option Expr} {pos : Pos} (hK : KOK σ.K) (Pm : Prims σ) (hv : ∀ n, EvOK σ n) (T : CxS cx cs) (hG : GOK σ cx) (V : EnvIs env L cx.ns cs) (hR : Rm A k (L :: Fs.map (·.1))) (S : RelS σ r cx cs ρ O L m Fs M M₀ X s) (hn : (M₀.map (·.1)).Nodup)
    (hw : wpSs (Ct σ) k ρ (stRaise cx o ++ G) Q R) (HX : PostXS σ L Fs M₀ X R E) : wpAny σ.M A (execs (.Raise o none pos :: rest) env) Q' E s := by
  refine optL hw fun e ho hw => ?_
  rw [ho]
  refine vwE (P := fun e v => wpSs (Ct σ) k ρ ((match v with | .call g es ks _ => if ks.isEmpty = true then stRz cx g es else [.bad] | _ => [.bad]) ++ G) Q R → wpAny σ.M A (execs (.Raise (some e) none pos :: rest) env) Q' E s) (fun v hw => ?_) e hw
  cases v with
  | call g es ks cp =>
    obtain ⟨hk, hw⟩ := ifL hw
    refine optL hw fun f hf hw => ?_
    refine optL hw fun e he hw => ?_
    obtain ⟨hc, hw⟩ := ifL hw
    obtain ⟨hg, hs⟩ := (Bool.and_eq_true _ _).mp hc
    obtain ⟨g1, g2⟩ := glo_fn (isFn_eq hg)
    obtain ⟨g3, g4⟩ := hG.fn _ _ g2
    obtain ⟨fp, ef⟩ := asName_eq hf
    show wpAny σ.M A (execs (.Raise (some (.Call g es ks cp)) none pos :: rest) env) Q' E s
    rw [List.isEmpty_iff.mp hk, ef, one_eq he]
    refine st_frzA T S hw fun ρ1 O1 M1 X1 hX1 S1 hw => ?_
    have hw := ss_raise hw
    refine wpAny_execs_cons ?_
    rw [arm_exec_Raise]
    refine wpAny_bind (wpAny_standAt ?_)
    refine Pm.raise (m := m) (hR.low (Nat.zero_le _)) (wpAny_bind (r_callD S1.st V g1 g3 g4 (r_items (hv 60 hG V hR (S1.rel T) hw (fun v p s2 X2 hX2 S2 hp hq => r_spl0 ⟨S2.st.live, ?_⟩) (S1.exc hn (HX.mono hX1))) ((noStar_cons hs).1 env)) (noStar_any hs _ _)))
    obtain ⟨msg, rfl, hk, hq⟩ := hq
    refine rep_str hp fun t => ?_
    refine Pm.mkE S2.st (hR.low hk) fun ex d s3 S3 => wpAny_bind (wpAny_standAt (wpAny_pure ?_))
    refine ⟨M1, X2, ex, d, msg, rfl, S3, fun s4 S4 => ?_⟩
    have rz : Raised σ L m Fs M1 X2 s4 (.ref ex) msg := ⟨ex, d, rfl, .inr S4⟩
    exact HX _ _ _ _ _ (hX1.trans hX2) (rz.subM S1.keep hn) hq
  | _ => exact False.elim hw
inductive ForJ (σ : Sig) (r : Option Addr) (cx : Cx) (cs : List (PySem.Str × Addr)) (L : Addr) (Fs : List (Addr × Know)) (M₀ : Mut) (X₀ : Led) (g : List Bd → Prop) (m : Know) (M : Mut) (X : Led) : Prop
  | mk (ρ' : List Bd) (O' : Own) (hsub : Sub X₀ X) (hrel : ∀ s, St σ L m Fs M X s → RelS σ r cx cs ρ' O' L m Fs M M₀ X s) (hwf : g ρ') : ForJ σ r cx cs L Fs M₀ X₀ g m M X
theorem for_core {x : PySem.Str} {px : Pos} {body : List Stmt} {p : PV} {v : Value} {l : List PV} {F : List Bd → (Fl → List Bd → Prop) → Prop} {i : Nat} (B : SvOK σ n) (T : CxS cx cs) (hG : GOK σ cx) (V : EnvIs env L cx.ns cs) (hT : EnvT cx env) (hR : Rm A k (L :: Fs.map (·.1))) (S : RelS σ r cx cs ρ O L m Fs M M₀ X s) (hn : (M₀.map (·.1)).Nodup)
    (hi : isVar cx x = some i) (hp : Rep σ r X p v) (hl : iterP p = some l) (hF : ∀ ρ Q, F ρ Q → wpSs (Ct σ) k ρ (compSs n cx body) Q fun _ => False) (hw : wpFor F i l ρ Q)
    (H : ∀ O' m' M' X' s' ρ', Sub X X' → RelS σ r cx cs ρ' O' L m' Fs M' M₀ X' s' → Q .next ρ' → wpAny σ.M A (execs rest env) Q' E s')
    (hret : ∀ p v ρ' O' m' M' X' s', Sub X X' → RelS σ r cx cs ρ' O' L m' Fs M' M₀ X' s' → Rep σ r X' p v → Q (.ret p) ρ' → Q' (.ret v) s') :
    wpAny σ.M A (pyIter v) (fun it s₂ => LoopAt σ A env x px body rest Q' E it s₂) E s := by
  refine s_iter S.st hp hl fun a Pp Vp X₀ s3 W hX0 S3 hval => ?_
  refine r_loop (fun j => ForJ σ r cx cs L Fs M₀ X (wpFor F i (l.drop j) · Q)) W hR.hd S3 hX0 (.mk ρ O (Sub.refl _) (fun s S' => S.grow (Sub.refl _) S') hw) ?_ ?_
  · intro j w m M X1 s hj hw hJ hX S4
    obtain ⟨ρ', O', hsub, hrel, hwf⟩ := hJ
    obtain ⟨q, hq, hrep⟩ := hval j w X1 hj hw hsub
    obtain ⟨q1, q2⟩ := List.getElem?_eq_some_iff.mp hq
    rw [List.drop_eq_getElem_cons q1, q2] at hwf
    have hwf := wf_cons hwf
    have Ra := hrel s S4.dropM
    have Rb := Ra.addI S4
    have hnd : (((a, Pp (j + 1)) :: M₀).map (·.1)).Nodup := by
      refine List.nodup_cons.mpr ⟨fun h => ?_, hn⟩
      obtain ⟨p, hp, e⟩ := List.mem_map.mp h
      exact (List.nodup_cons.mp S4.mnd).1 (by rw [← show p.1 = a from e]; exact List.mem_map.mpr ⟨p, Ra.keep p hp, rfl⟩)
    refine Rb.store T V hi (b := .v q) hrep fun m' M' s' S5 => ?_
    refine B T hG V hT hR S5 hnd (hF _ _ hwf) (fun fl fl' ρ2 O2 m2 M2 X3 s4 hX3 S6 hm hq => ?_) fun v msg m' s' X' _ _ hm => hm.elim
    have next : wpFor F i (l.drop (j + 1)) ρ2 Q → TurnIs σ L Fs a (Pp (j + 1)) X₀ (ForJ σ r cx cs L Fs M₀ X (wpFor F i (l.drop (j + 1)) · Q)) s4 := fun hq =>
      let ⟨M3, S7, hrel'⟩ := S6.outI T S.row hnd
      .mk m2 M3 X3 S7 (fun p hp => hX3 _ (hX _ hp)) (.mk ρ2 O2 (hsub.trans hX3) hrel' hq)
    cases hm with
    | next => exact next hq
    | cont => exact next hq
    | ret hr => exact hret _ _ _ _ _ _ _ _ (hsub.trans hX3) (S6.less (fun p hp => .tail _ hp) S.row) hr hq
  · intro m M X s hJ hX S4
    obtain ⟨ρ', O', hsub, hrel, hwf⟩ := hJ
    have hwf : wpFor F i (l.drop l.length) ρ' Q := hwf
    rw [List.drop_length] at hwf
    exact H _ _ _ _ _ _ hsub (hrel s S4) hwf
end
theorem sv_ok (hK : KOK σ.K) (Pm : Prims σ) (hv : ∀ n, EvOK σ n) (itv : ∀ n, TvOK σ n) : ∀ n, SvOK σ n := by
  intro n
  induction n using Nat.strongRecOn with
  | _ n ih =>
  intro r cx cs k ρ O L m Fs M M₀ X s env A E ss Q R Q' T hG V hT hR S hn hw H HX
  cases n with
  | zero => exact False.elim hw
  | succ n =>
  cases ss with
  | nil =>
    exact x_nil (H .next .next ρ O m M X s (Sub.refl X) S .next hw)
  | cons st rest =>
  replace hw : wpSs (Ct σ) k ρ (armS cx (compSs n cx) st ++ compSs n cx rest) Q R := hw
  -- what follows
  have cont : ∀ {O' : Own} {m' : Know} {M' : Mut} {X' : Led} {s' : Shared} {ρ' : List Bd}, Sub X X' → RelS σ r cx cs ρ' O' L m' Fs M' M₀ X' s' → wpSs (Ct σ) k ρ' (compSs n cx rest) Q R → wpAny σ.M A (execs rest env) Q' E s' :=
    fun hX S' h => ih n (Nat.lt_succ_self n) T hG V hT hR S' hn h (H.mono hX) (HX.mono hX)
  cases st with
  | Assign ts e pos =>
    exact optL hw fun t ht hw => by rw [one_eq ht]; exact sa_ok hK Pm hv itv T hG V hT hR S hn hw cont HX
  | Expr e pos => exact sx_ok hK Pm hv T hG V hR S hn hw cont HX
  | If c t f pos =>
    refine st_frzA T S hw fun ρ1 O1 M1 X1 hX1 S1 hw => ?_
    replace hw := ss_ite hw
    refine x_if (itv 60 hG V hR (S1.rel T) hw (fun b s2 X2 hX2 S2 hb => ?_) (S1.exc hn (HX.mono hX1)))
    have S3 := S1.grow hX2 S2.st
    have post : PostS σ r cx cs L Fs M₀ X2 (seqF Q fun ρ' => wpSs (Ct σ) k ρ' (compSs n cx rest) Q R) (thenDo Q' fun s => wpAny σ.M A (execs rest env) Q' E s) := by
      intro fl fl' ρ' O' m' M' X' s' hX S' hm hq
      cases hm with
      | next => exact cont (hX1.trans (hX2.trans hX)) S' hq
      | cont => exact H _ _ _ _ _ _ _ _ (hX1.trans (hX2.trans hX)) S' .cont hq
      | ret hr => exact H _ _ _ _ _ _ _ _ (hX1.trans (hX2.trans hX)) S' (.ret hr) hq
    cases b with
    | true => rw [if_pos rfl]; exact ih n (Nat.lt_succ_self n) T hG V hT hR S3 hn (hb.1 rfl) post (HX.mono (hX1.trans hX2))
    | false => rw [if_neg (by decide)]; exact ih n (Nat.lt_succ_self n) T hG V hT hR S3 hn (hb.2 rfl) post (HX.mono (hX1.trans hX2))
  | Return o pos =>
    refine optL hw fun e ho hw => ?_
    rw [ho]
    refine st_frzA T S hw fun ρ1 O1 M1 X1 hX1 S1 hw => ?_
    replace hw := ss_ret hw
    exact x_ret (hv 60 hG V hR (S1.rel T) hw (fun v p s2 X2 hX2 S2 hp hq => H _ _ _ _ _ _ _ _ (hX1.trans hX2) (S1.grow hX2 S2.st) (.ret hp) hq) (S1.exc hn (HX.mono hX1)))
  | Continue pos => exact x_cont (H _ _ _ _ _ _ _ _ (Sub.refl X) S .cont hw)
  | For t it body els pos =>
    obtain ⟨he, hw⟩ := ifL hw
    rw [List.isEmpty_iff.mp he]
    refine optL hw fun x hx hw => ?_
    obtain ⟨px, ex⟩ := asName_eq hx
    rw [ex]
    refine optL hw fun i hi hw => ?_
    refine st_frzA T S hw fun ρ1 O1 M1 X1 hX1 S1 hw => ?_
    replace hw := ss_for hw
    refine x_for (hv 60 hG V hR (S1.rel T) hw (fun v p s2 X2 hX2 S2 hp hq => ?_) (S1.exc hn (HX.mono hX1))) (set_plain' (fun a b c e => ?_) env)
    · obtain ⟨l, hl, hq⟩ := hq
      exact for_core (ih n (Nat.lt_succ_self n)) T hG V hT hR (S1.grow hX2 S2.st) hn hi hp hl (fun _ _ h => h) hq (fun O' m' M' X' s' ρ' hX S' hq => cont (hX1.trans (hX2.trans hX)) S' hq) fun p v ρ' O' m' M' X' s' hX S' hr hq => H _ _ _ _ _ _ _ _ (hX1.trans (hX2.trans hX)) S' (.ret hr) hq
    · subst e
      exact wr_bad hw
  | Raise o c pos =>
    obtain ⟨he, hw⟩ := ifL hw
    rw [Option.isNone_iff_eq_none.mp he]
    exact sr_ok hK Pm hv T hG V hR S hn hw HX
  | _ => exact False.elim hw
end
end Mine

end
section
open PySem PySem.W PySem.Calls PyProof.Rows PySem.Spec
set_option Elab.async false
set_option maxRecDepth 100000
set_option linter.unusedVariables false
namespace Mine
noncomputable def defOk (params : List PySem.Str) (sc : Scope) : Bool :=
  lookNames sc.names sc.names && oddNames sc.names && decide ((sc.names.take params.length).map (·.1) = params) && decide ((sc.names.map (·.1)).Nodup) && sc.names.all (fun p => p.2 == .local || p.2 == .cell || p.2 == .globalImplicit) &&
    (sc.names.take params.length).all (fun p => p.2 == .local || p.2 == .cell) && sc.kind == .function && !sc.isGenerator && !sc.isCoroutine

theorem ix_get {ns : List (PySem.Str × NameKind)} {x : PySem.Str} {i : Nat} (h : (ns.zipIdx.map fun p => (p.1.1, p.2)).lookup x = some i) : ∃ k, ns[i]? = some (x, k) := by
  have hm := lookup_mem' h
  obtain ⟨⟨⟨y, k⟩, j⟩, hj, e⟩ := List.mem_map.mp hm
  simp only [Prod.mk.injEq] at e
  obtain ⟨rfl, rfl⟩ := e
  exact ⟨k, by simpa using List.mem_zipIdx_iff_getElem?.mp hj⟩
theorem cells_mono {p : PySem.Str × Addr} : ∀ (ns : List (PySem.Str × NameKind)) (n : Nat) (acc : List (PySem.Str × Addr)), p ∈ acc → p ∈ cellsFrom n ns acc
  | [], n, acc, h => h
  | (z, k) :: r, n, acc, h => by
    unfold cellsFrom
    split
    · exact cells_mono r _ _ (.tail _ h)
    · exact cells_mono r _ _ h
theorem cells_has {y : PySem.Str} : ∀ (ns : List (PySem.Str × NameKind)) (n : Nat) (acc : List (PySem.Str × Addr)), (y, NameKind.cell) ∈ ns → ∃ c, (y, c) ∈ cellsFrom n ns acc
  | (z, k) :: r, n, acc, h => by
    unfold cellsFrom
    rcases List.mem_cons.mp h with e | h
    · cases e
      rw [if_pos (by decide)]
      exact ⟨n, cells_mono r _ _ (.head _)⟩
    · split
      · exact cells_has r _ _ h
      · exact cells_has r _ _ h
theorem bindL_old {kindOf : PySem.Str → Option NameKind} {x : PySem.Str} : ∀ (binds : List (PySem.Str × Value)) (m : PySem.Str → Option Value), x ∉ binds.map (·.1) → bindL kindOf binds m x = m x
  | [], m, _ => rfl
  | (n, v) :: r, m, h => by
    have hn : x ≠ n := fun e => h (by rw [e]; exact .head _)
    unfold bindL
    rw [bindL_old r _ fun q => h (.tail _ q)]
    split
    · simp [hn]
    · rfl
theorem bindL_new {kindOf : PySem.Str → Option NameKind} {x : PySem.Str} {v : Value} (hk : kindOf x = some .local) : ∀ (binds : List (PySem.Str × Value)) (m : PySem.Str → Option Value), (binds.map (·.1)).Nodup → (x, v) ∈ binds → bindL kindOf binds m x = some v
  | (n, w) :: r, m, hn, h => by
    have hq := List.nodup_cons.mp hn
    unfold bindL
    rcases List.mem_cons.mp h with e | h
    · cases e
      rw [bindL_old r _ hq.1, if_pos hk]
      simp
    · exact bindL_new hk r _ hq.2 h
theorem bindC_old {kindOf : PySem.Str → Option NameKind} {x : PySem.Str} : ∀ (binds : List (PySem.Str × Value)) (m : PySem.Str → Option Value), x ∉ binds.map (·.1) → bindC kindOf binds m x = m x
  | [], m, _ => rfl
  | (n, v) :: r, m, h => by
    have hn : x ≠ n := fun e => h (by rw [e]; exact .head _)
    unfold bindC
    rw [bindC_old r _ fun q => h (.tail _ q)]
    split
    · rfl
    · simp [hn]
theorem bindC_new {kindOf : PySem.Str → Option NameKind} {x : PySem.Str} {v : Value} (hk : kindOf x ≠ some .local) : ∀ (binds : List (PySem.Str × Value)) (m : PySem.Str → Option Value), (binds.map (·.1)).Nodup → (x, v) ∈ binds → bindC kindOf binds m x = some v
  | (n, w) :: r, m, hn, h => by
    have hq := List.nodup_cons.mp hn
    unfold bindC
    rcases List.mem_cons.mp h with e | h
    · cases e
      rw [bindC_old r _ hq.1, if_neg hk]
      simp
    · exact bindC_new hk r _ hq.2 h
end Mine
namespace Mine
theorem cells_nodup : ∀ (ns : List (PySem.Str × NameKind)) (n : Nat) (acc : List (PySem.Str × Addr)), (ns.map (·.1)).Nodup → (acc.map (·.1)).Nodup → (∀ x ∈ acc.map (·.1), x ∉ ns.map (·.1)) → ((cellsFrom n ns acc).map (·.1)).Nodup
  | [], n, acc, _, h, _ => h
  | (z, k) :: r, n, acc, h1, h2, h3 => by
    have hq := List.nodup_cons.mp h1
    unfold cellsFrom
    split
    · refine cells_nodup r _ _ hq.2 (List.nodup_cons.mpr ⟨fun h => h3 z h (.head _), h2⟩) fun x hx => ?_
      rcases List.mem_cons.mp hx with rfl | hx
      · exact hq.1
      · exact fun h => h3 x hx (.tail _ h)
    · exact cells_nodup r _ _ hq.2 h2 fun x hx h => h3 x hx (.tail _ h)
theorem lookup_nodup' {α : Type} {y : PySem.Str} {c : α} : ∀ {l : List (PySem.Str × α)}, (l.map (·.1)).Nodup → (y, c) ∈ l → l.lookup y = some c
  | (z, e) :: r, hn, h => by
    have hq := List.nodup_cons.mp hn
    rw [List.lookup_cons]
    rcases List.mem_cons.mp h with h | h
    · cases h; simp
    · have q : ¬ y = z := fun e => hq.1 (by rw [← e]; exact List.mem_map.mpr ⟨_, h, rfl⟩)
      have q' : (y == z) = false := by simpa using q
      rw [q']
      exact lookup_nodup' hq.2 h
noncomputable def knowL (names : List (PySem.Str × NameKind)) (binds : List (PySem.Str × Value)) : Know := names.filterMap fun p => if p.2 == .local then some (p.1, (binds.lookup p.1).map some) else none
noncomputable def cellsM (kindOf : PySem.Str → Option NameKind) (binds : List (PySem.Str × Value)) (cs : List (PySem.Str × Addr)) : Mut := cs.map fun p => (p.2, CellP (bindC kindOf binds (fun _ => none) p.1))
theorem knowL_names (names : List (PySem.Str × NameKind)) (binds : List (PySem.Str × Value)) : (knowL names binds).map (·.1) = (names.filter fun p => p.2 == .local).map (·.1) := by
  induction names with
  | nil => rfl
  | cons p r ih =>
    unfold knowL at ih ⊢
    rw [List.filterMap_cons, List.filter_cons]
    cases h : p.2 == NameKind.local with
    | true => simp only [if_true, List.map_cons, ih]
    | false => simp only [Bool.false_eq_true, if_false, ih]
theorem knowL_mem {names : List (PySem.Str × NameKind)} {binds : List (PySem.Str × Value)} {q : PySem.Str × Option (Option Value)} (h : q ∈ knowL names binds) : (q.1, NameKind.local) ∈ names ∧ q.2 = (binds.lookup q.1).map some := by
  unfold knowL at h
  obtain ⟨⟨x, k⟩, hx, e⟩ := List.mem_filterMap.mp h
  split at e
  · rename_i hk
    have hk : k = .local := by cases k <;> first | rfl | (simp at hk)
    subst hk
    cases e
    exact ⟨hx, rfl⟩
  · cases e
theorem knowL_has {names : List (PySem.Str × NameKind)} {binds : List (PySem.Str × Value)} {x : PySem.Str} (h : (x, NameKind.local) ∈ names) : (x, (binds.lookup x).map some) ∈ knowL names binds :=
  List.mem_filterMap.mpr ⟨_, h, by simp⟩
structure DefOk (params : List PySem.Str) (sc : Scope) : Prop where
  look : lookNames sc.names sc.names = true
  odd : oddNames sc.names = true
  pre : (sc.names.take params.length).map (·.1) = params
  nd : (sc.names.map (·.1)).Nodup
  kinds : ∀ p ∈ sc.names, p.2 = .local ∨ p.2 = .cell ∨ p.2 = .globalImplicit
  pk : ∀ p ∈ sc.names.take params.length, p.2 = .local ∨ p.2 = .cell
  kind : sc.kind = .function
  gen : sc.isGenerator = false
  co : sc.isCoroutine = false
theorem defOk_says {params : List PySem.Str} {sc : Scope} (h : defOk params sc = true) : DefOk params sc := by
  unfold defOk at h
  simp only [Bool.and_eq_true, beq_iff_eq, List.all_eq_true, decide_eq_true_eq, Bool.or_eq_true, Bool.not_eq_true'] at h
  obtain ⟨⟨⟨⟨⟨⟨⟨⟨h1, h2⟩, h3⟩, h4⟩, h5⟩, h6⟩, h7⟩, h8⟩, h9⟩ := h
  exact ⟨h1, h2, h3, h4, fun p hp => by rcases h5 p hp with (h | h) | h <;> simp [h], h6, h7, h8, h9⟩

section
variable {σ : Sig} {A : Around} {E : Value → Shared → Prop} {L₀ : Addr} {m₀ : Know} {Fs : List (Addr × Know)} {M : Mut} {X : Led} {s : Shared} {Q : Value → Shared → Prop} {k : Nat}
theorem c_callC {R' : Result → Shared → Prop} {params : List PySem.Str} {name qual : PySem.Str} {pms : Arguments} {body : List Stmt} {sc : Scope} {dV kV doc pm cdv ct oc : Value} {an od : Option Addr} {osl : Array (Option Value)} {f : Addr} {vals : List Value} {binds : List (PySem.Str × Value)}
    (D : DefOk params sc) (S : St σ L₀ m₀ Fs M X s) (R : Rm A (k + 1) (L₀ :: Fs.map (·.1)))
    (ho : σ.K.lookup f = some ⟨oc, od, .func (fnOf name qual pms body sc dV kV doc pm an cdv ct), osl⟩) (hcd : codeIn σ.K cdv qual = true)
    (hbind : BindsTo s (fnOf name qual pms body sc dV kV doc pm an cdv ct) ⟨vals, []⟩ binds) (hb : binds.map (·.1) = params)
    (h : ∀ env L cs s', EnvIs env L sc.names cs → env.frame = some L → env.scope.kind = .function → cs = cellsFrom (L + 1) sc.names [] → (cs.map (·.1)).Nodup → (cs.Pairwise fun x y => x.2 ≠ y.2) → (∀ p ∈ cs, p.2 ∉ M.map (·.1)) →
      St σ L (knowL sc.names binds) ((L₀, m₀) :: Fs) (cellsM (fun x => sc.names.lookup x) binds cs ++ M) X s' → Rm (A.deeper env) k (L :: L₀ :: Fs.map (·.1)) →
      wpAny σ.M (A.deeper env) (execs body env) (fun fl s'' => R' (.ok (.ret (match fl with | .ret v => v | _ => .none))) s'') (fun e s'' => wpAny σ.M (A.deeper env) (leaving env e) (fun _ s₃ => R' (.error e) s₃) (fun e' s₃ => R' (.error e') s₃) s'') s') :
    codeAny σ.M A (.call (.ref f) ⟨vals, []⟩) R' s := by
  have hr : A.depth < recursionLimit := by have := R.dp; omega
  have hlim := S.ok.nolimit.keeps S.W
  have hpn : params.Nodup := by
    rw [← D.pre]
    exact (List.Sublist.map _ (List.take_sublist _ _)).nodup D.nd
  have hbn : (binds.map (·.1)).Nodup := by rw [hb]; exact hpn
  have hcn : ∀ n, ((cellsFrom n sc.names []).map (·.1)).Nodup := fun n => cells_nodup _ _ _ D.nd List.nodup_nil fun _ h => nomatch h
  have hbk : ∀ x ∈ binds, ∃ kd, (x.1, kd) ∈ sc.names ∧ (kd = .local ∨ kd = .cell) := fun x hx => by
    have h1 : x.1 ∈ (sc.names.take params.length).map (·.1) := by rw [D.pre, ← hb]; exact List.mem_map.mpr ⟨x, hx, rfl⟩
    obtain ⟨p, hp, e⟩ := List.mem_map.mp h1
    exact ⟨p.2, by rw [← e]; exact List.mem_of_mem_take hp, D.pk p hp⟩
  refine codeAny_call_function hr (S.W _ _ (S.ok.In _ _ ho)) rfl D.co D.gen rfl (codeRec_of (S.ok.In.keeps S.W) hcd) (hbind _ _ _ _ ?_)
  refine wpAny_newFunctionEnv_cells D.kind (fun x hx => ?_) fun env he s' x => ?_
  · obtain ⟨kd, h1, h2⟩ := hbk x hx
    rcases h2 with rfl | rfl
    · exact .inl (lookNames.says D.look _ h1)
    · refine .inr ⟨lookNames.says D.look _ h1, ?_⟩
      obtain ⟨c, hc⟩ := cells_has sc.names (s.heap.objs.size + 1) [] h1
      rw [lookup_nodup' (hcn _) hc]; rfl
  · subst he
    refine ⟨hlim.keeps x.toInCall.keep, codeAny_func ?_⟩
    obtain ⟨h', tk, hs'⟩ := x.toInCall.same
    have hk := x.toInCall.keep
    have hns := x.toInCall.ns
    have hcell := x.cell
    have hap := x.apart
    have hab := x.above
    generalize hL : s.heap.objs.size = L at *
    have hV : EnvIs (newEnv sc L mainGlobals (cellsFrom (L + 1) sc.names []) (qual ++ ".<locals>.") (some f) cdv none builtinsNs) L sc.names (cellsFrom (L + 1) sc.names []) := ⟨rfl, D.kind, rfl, rfl, rfl, lookNames.says D.look, oddNames.says D.odd⟩
    have hlt : ∀ a ∈ L₀ :: (Fs.map (·.1) ++ M.map (·.1)), a < L := fun a ha => hL ▸ S.own_lt ha
    have hge : ∀ a, L ≤ a → σ.W₀.get? a = none ∧ ∀ p ∈ X, p.1 ≠ a := fun a ha => by
      refine ⟨?_, fun p hp e => ?_⟩
      · cases q : σ.W₀.get? a with
        | none => rfl
        | some o => have := Heap.lt_size (S.W _ _ q); rw [hL] at this; exact absurd this (Nat.not_lt.mpr ha)
      · have := Heap.lt_size (S.fz p hp)
        rw [hL, e] at this
        exact absurd this (Nat.not_lt.mpr ha)
    have hS : St σ L (knowL sc.names binds) ((L₀, m₀) :: Fs) (cellsM (fun x => sc.names.lookup x) binds (cellsFrom (L + 1) sc.names []) ++ M) X s' := by
      have hcm : ∀ p ∈ cellsM (fun x => sc.names.lookup x) binds (cellsFrom (L + 1) sc.names []), L < p.1 := fun p hp => by
        obtain ⟨q, hq, rfl⟩ := List.mem_map.mp hp
        exact hab q.1 q.2 hq
      refine ⟨S.ok, by rw [hs']; exact S.gens, by rw [hs']; exact S.drawn, by rw [hs']; exact S.os, fun b o e => hk b o (S.W b o e), ⟨?_, _, hns, fun p hp o ho => ?_⟩, fun p hp => ?_, fun p hp => ?_, fun p hp => hk _ _ (S.fz p hp), ?_, fun a ha => ?_⟩
      · rw [knowL_names]
        exact (List.Sublist.map _ List.filter_sublist).nodup D.nd
      · obtain ⟨h1, h2⟩ := knowL_mem hp
        rw [h2] at ho
        obtain ⟨v, hv, rfl⟩ := Option.map_eq_some_iff.mp ho
        exact bindL_new (lookNames.says D.look _ h1) binds _ hbn (mem_of_lookup hv)
      · rcases List.mem_cons.mp hp with rfl | hp
        · exact S.cur.keeps fun o e => hk _ _ e
        · exact (S.fs p hp).keeps fun o e => hk _ _ e
      · rcases List.mem_append.mp hp with hp | hp
        · obtain ⟨q, hq, rfl⟩ := List.mem_map.mp hp
          exact hcell q.1 q.2 (lookup_nodup' (hcn _) hq)
        · obtain ⟨o, h1, h2⟩ := S.own p hp
          exact ⟨o, hk _ _ h1, h2⟩
      · refine List.nodup_cons.mpr ⟨fun h => ?_, ?_⟩
        · rw [List.map_cons, List.map_append, List.cons_append] at h
          rcases List.mem_cons.mp h with h | h
          · exact absurd (hlt L₀ (.head _)) (by rw [h]; exact Nat.lt_irrefl _)
          · rcases List.mem_append.mp h with h | h
            · exact absurd (hlt L (.tail _ (List.mem_append_left _ h))) (Nat.lt_irrefl _)
            · rcases List.mem_append.mp h with h | h
              · obtain ⟨p, hp, e⟩ := List.mem_map.mp h
                have e : p.1 = L := e
                exact absurd (hcm p hp) (by rw [e]; exact Nat.lt_irrefl _)
              · exact absurd (hlt L (.tail _ (List.mem_append_right _ h))) (Nat.lt_irrefl _)
        · rw [List.map_cons, List.map_append, List.cons_append]
          have hnd := S.nd
          simp only [List.nodup_cons, List.nodup_append, List.mem_append, not_or] at hnd ⊢
          refine ⟨⟨hnd.1.1, fun h => ?_, hnd.1.2⟩, hnd.2.1, ⟨?_, hnd.2.2.1, fun a ha b hb e => ?_⟩, fun a ha b hb e => ?_⟩
          · obtain ⟨p, hp, e⟩ := List.mem_map.mp h
            have e : p.1 = L₀ := e
            exact absurd (hcm p hp) (by rw [e]; exact Nat.lt_asymm (hlt L₀ (.head _)))
          · show ((cellsM _ binds (cellsFrom (L + 1) sc.names [])).map (·.1)).Nodup
            unfold cellsM
            rw [List.map_map]
            exact List.pairwise_map.mpr hap
          · obtain ⟨p, hp, e'⟩ := List.mem_map.mp ha
            have e' : p.1 = a := e'
            exact absurd (hcm p hp) (by rw [e', e]; exact Nat.lt_asymm (hlt b (.tail _ (List.mem_append_right _ hb))))
          · rcases hb with hb | hb
            · obtain ⟨p, hp, e'⟩ := List.mem_map.mp hb
              have e' : p.1 = b := e'
              exact absurd (hcm p hp) (by rw [e', ← e]; exact Nat.lt_asymm (hlt a (.tail _ (List.mem_append_left _ ha))))
            · exact hnd.2.2.2 a ha b hb e
      · rw [List.map_cons, List.map_append, List.cons_append] at ha
        rcases List.mem_cons.mp ha with rfl | ha
        · exact hge _ (Nat.le_refl _)
        · rcases List.mem_cons.mp ha with rfl | ha
          · exact S.new _ (.head _)
          · rcases List.mem_append.mp ha with ha | ha
            · exact S.new _ (.tail _ (List.mem_append_left _ ha))
            · rcases List.mem_append.mp ha with ha | ha
              · obtain ⟨p, hp, rfl⟩ := List.mem_map.mp ha
                exact hge _ (Nat.le_of_lt (hcm p hp))
              · exact S.new _ (.tail _ (List.mem_append_right _ ha))
    refine h _ L _ s' hV rfl D.kind rfl (hcn _) hap (fun p hp hm => ?_) hS (R.deeper D.kind rfl)
    exact absurd (hab p.1 p.2 hp) (Nat.lt_asymm (hlt p.2 (.tail _ (List.mem_append_right _ hm))))
theorem r_callC {params : List PySem.Str} {name qual : PySem.Str} {pms : Arguments} {body : List Stmt} {sc : Scope} {dV kV doc pm cdv ct oc : Value} {an od : Option Addr} {osl : Array (Option Value)} {f : Addr} {vals : List Value} {binds : List (PySem.Str × Value)}
    (D : DefOk params sc) (S : St σ L₀ m₀ Fs M X s) (R : Rm A (k + 1) (L₀ :: Fs.map (·.1)))
    (ho : σ.K.lookup f = some ⟨oc, od, .func (fnOf name qual pms body sc dV kV doc pm an cdv ct), osl⟩) (hcd : codeIn σ.K cdv qual = true)
    (hbind : BindsTo s (fnOf name qual pms body sc dV kV doc pm an cdv ct) ⟨vals, []⟩ binds) (hb : binds.map (·.1) = params)
    (h : ∀ env L cs s', EnvIs env L sc.names cs → env.frame = some L → env.scope.kind = .function → cs = cellsFrom (L + 1) sc.names [] → (cs.map (·.1)).Nodup → (cs.Pairwise fun x y => x.2 ≠ y.2) → (∀ p ∈ cs, p.2 ∉ M.map (·.1)) →
      St σ L (knowL sc.names binds) ((L₀, m₀) :: Fs) (cellsM (fun x => sc.names.lookup x) binds cs ++ M) X s' → Rm (A.deeper env) k (L :: L₀ :: Fs.map (·.1)) →
      wpAny σ.M (A.deeper env) (execs body env) (fun fl s'' => Q (match fl with | .ret v => v | _ => .none) s'') (fun e s'' => wpAny σ.M (A.deeper env) (leaving env e) (fun _ s₃ => E e s₃) (fun e' s₃ => E e' s₃) s'') s') :
    wpAny σ.M A (call (.ref f) vals) Q E s := wpAny_call (c_callC D S R ho hcd hbind hb h)
end
end Mine

end
section
open PySem PySem.W PySem.Calls PyProof.Rows PySem.Spec
set_option Elab.async false
set_option maxRecDepth 100000
set_option linter.unusedVariables false
namespace Mine
structure GlobOK (σ : Sig) (G : PySem.Str → Gl) : Prop where
  fn : ∀ x f, G x = .fn f → nsIn σ.K mainGlobals x = some (some (.ref f)) ∧ keepIn σ.K (.ref f) = true
  bi : ∀ x b, G x = .bi b → nsIn σ.K mainGlobals x = some none ∧ bootBuiltins x = some b.val
inductive IsDef (σ : Sig) (f : Addr) (G : PySem.Str → Gl) (params : List PySem.Str) (d : Nat) (ir : List IS) : Prop
  | mk (name qual : PySem.Str) (pms : Arguments) (body : List Stmt) (sc : Scope) (dV kV doc pm cdv ct oc : Value) (an od : Option Addr) (osl : Array (Option Value)) (own : List PySem.Str)
    (h1 : σ.K.lookup f = some ⟨oc, od, .func (fnOf name qual pms body sc dV kV doc pm an cdv ct), osl⟩) (h2 : codeIn σ.K cdv qual = true) (h3 : defOk params sc = true) (h4 : sc.names.length = d) (h5 : compSs 60 (cxOf G sc.names own) body = ir)
    (h6 : ∀ s vals, σ.K.In s.heap → vals.length = params.length → BindsTo s (fnOf name qual pms body sc dV kV doc pm an cdv ct) ⟨vals, []⟩ (params.zip vals)) : IsDef σ f G params d ir
@[elab_as_elim] theorem len1 {C : List Value → Prop} {vals : List Value} (hl : vals.length = 1) (h : ∀ a, C [a]) : C vals := by
  cases vals with
  | nil => cases hl
  | cons a r => cases r with
    | nil => exact h a
    | cons _ _ => cases hl
@[elab_as_elim] theorem len3 {C : List Value → Prop} {vals : List Value} (hl : vals.length = 3) (h : ∀ a b c, C [a, b, c]) : C vals := by
  cases vals with
  | nil => cases hl
  | cons a r => cases r with
    | nil => cases hl
    | cons b r => cases r with
      | nil => cases hl
      | cons c r => cases r with
        | nil => exact h a b c
        | cons _ _ => cases hl

section
variable {σ : Sig} {G : PySem.Str → Gl} {A : Around} {E : Value → Shared → Prop} {L L₀ : Addr} {m₀ : Know} {Fs : List (Addr × Know)} {M : Mut} {X : Led} {s : Shared} {k : Nat} {params : List PySem.Str} {sc : Scope} {own : List PySem.Str} {cs : List (PySem.Str × Addr)} {vals : List Value} {args : List PV} {r : Option Addr}
theorem gok_of (hG : GlobOK σ G) : GOK σ (cxOf G sc.names own) := by
  refine ⟨hG.fn, hG.bi, fun x i h => ?_⟩
  obtain ⟨kd, hk⟩ := ix_get h
  exact (List.getElem?_eq_some_iff.mp hk).1
theorem isVar_ix {x : PySem.Str} {i : Nat} (h : isVar (cxOf G sc.names own) x = some i) : ∃ kd, sc.names[i]? = some (x, kd) := ix_get (isVar_mem h).2
theorem cxs_of (D : DefOk params sc) (hcs : cs = cellsFrom (L + 1) sc.names []) (hcn : (cs.map (·.1)).Nodup) (hap : cs.Pairwise fun x y => x.2 ≠ y.2) : CxS (cxOf G sc.names own) cs := by
  refine ⟨fun x y i h1 h2 => ?_, fun x h => ?_, fun x y c h1 h2 => name_of_addr hap (mem_of_lookup h1) (mem_of_lookup h2), fun y hy => ?_⟩
  · obtain ⟨k1, e1⟩ := isVar_ix h1
    obtain ⟨k2, e2⟩ := isVar_ix h2
    rw [e1] at e2; cases e2; rfl
  · rcases D.kinds _ h with h | h | h <;> cases h
  · obtain ⟨c, hc⟩ := cells_has sc.names (L + 1) [] hy
    exact ⟨c, lookup_nodup' hcn (hcs ▸ hc)⟩
theorem zip_mem {α β : Type} : ∀ {l : List α} {l' : List β} {i : Nat} {a : α} {b : β}, l[i]? = some a → l'[i]? = some b → (a, b) ∈ l.zip l'
  | _ :: _, _ :: _, 0, a, b, h, h' => by simp at h h'; subst h h'; exact .head _
  | _ :: l, _ :: l', i + 1, a, b, h, h' => by simp at h h'; exact .tail _ (zip_mem h h')
theorem entry (D : DefOk params sc) (hcs : cs = cellsFrom (L + 1) sc.names []) (hcn : (cs.map (·.1)).Nodup) (hcM : ∀ p ∈ cs, p.2 ∉ M.map (·.1)) (hv : Reps σ r X args vals) (hl : args.length = params.length)
    (hr : ∀ a, r = some a → (a, RowO) ∈ M) (S : St σ L (knowL sc.names (params.zip vals)) Fs (cellsM (fun x => sc.names.lookup x) (params.zip vals) cs ++ M) X s) :
    RelS σ r (cxOf G sc.names own) cs (args.map .v ++ List.replicate (sc.names.length - args.length) .u) [] L (knowL sc.names (params.zip vals)) Fs (cellsM (fun x => sc.names.lookup x) (params.zip vals) cs ++ M) M X s := by
  have hvl : vals.length = params.length := by rw [← hl, hv.length]
  have hz : (params.zip vals).map (·.1) = params := zip_fst hvl.symm
  have hpn : params.Nodup := by
    rw [← D.pre]; exact (List.Sublist.map _ (List.take_sublist _ _)).nodup D.nd
  have hle : params.length ≤ sc.names.length := by
    have := congrArg List.length D.pre
    simp only [List.length_map, List.length_take] at this
    omega
  refine ⟨S, hr, fun x i b h1 h2 h3 => ?_, ?_, fun p hp => List.mem_append_right _ hp, fun x hx => List.mem_map.mpr ⟨_, knowL_has hx, rfl⟩, fun x c hx hc => ⟨⟨_, List.mem_append_left _ (List.mem_map.mpr ⟨_, mem_of_lookup hc, rfl⟩)⟩, hcM _ (mem_of_lookup hc)⟩, List.nodup_nil, fun _ h => nomatch h⟩
  · obtain ⟨kd, hk⟩ := isVar_ix h1
    have hi : i < args.length := by
      rcases Nat.lt_or_ge i args.length with h | h
      · exact h
      · rw [List.getElem?_append_right (by simpa using h), List.getElem?_replicate] at h2
        split at h2
        · cases h2; exact absurd rfl h3
        · cases h2
    rw [List.getElem?_append_left (by simpa using hi), List.getElem?_map, List.getElem?_eq_getElem hi] at h2
    cases h2
    obtain ⟨v, hv1, hv2⟩ := hv.get (List.getElem?_eq_getElem hi)
    have hx : params[i]? = some x := by
      rw [← D.pre, List.getElem?_map, List.getElem?_take, if_pos (by omega), hk]; rfl
    have hb : (x, v) ∈ params.zip vals := zip_mem hx hv1
    have hbn : ((params.zip vals).map (·.1)).Nodup := by rw [hz]; exact hpn
    have hmem := List.mem_of_getElem? hk
    have hkd := D.pk (x, kd) (List.mem_of_getElem? (i := i) (by rw [List.getElem?_take, if_pos (by omega)]; exact hk))
    refine ⟨v, ?_, hv2⟩
    rcases hkd with e | e
    · simp only at e; subst e
      refine .inl ⟨hmem, ?_⟩
      have := knowL_has (binds := params.zip vals) hmem
      rw [lookup_nodup' hbn hb] at this
      exact this
    · simp only at e; subst e
      obtain ⟨c, hc⟩ := cells_has sc.names (L + 1) [] hmem
      have hc' : cs.lookup x = some c := lookup_nodup' hcn (hcs ▸ hc)
      refine .inr ⟨.inl hmem, c, hc', List.mem_append_left _ (List.mem_map.mpr ⟨(x, c), mem_of_lookup hc', ?_⟩)⟩
      show (c, CellP (bindC _ _ _ x)) = _
      rw [bindC_new (by rw [lookNames.says D.look _ hmem]; simp) _ _ hbn hb]
  · rw [List.length_append, List.length_map, List.length_replicate]
    show _ = sc.names.length
    omega
noncomputable def retQ (Q : PV → Prop) : Fl → List Bd → Prop := fun fl _ => match fl with | .ret p => Q p | .next => Q .none | .cont => False
@[simp] theorem r_ret {Q : PV → Prop} {p : PV} {ρ : List Bd} : retQ Q (.ret p) ρ = Q p := rfl
@[simp] theorem r_nx {Q : PV → Prop} {ρ : List Bd} : retQ Q .next ρ = Q .none := rfl
theorem def_ct {f : Addr} {d : Nat} {ir : List IS} {Q : PV → Prop} {R : PySem.Str → Prop} (hK : KOK σ.K) (Pm : Prims σ) (hG : GlobOK σ G) (hv : ∀ n, EvOK σ n) (itv : ∀ n, TvOK σ n) (I : IsDef σ f G params d ir) (hl : args.length = params.length)
    (hw : wpSs (Ct σ) k (args.map .v ++ List.replicate (d - args.length) .u) ir (retQ Q) R) : Ct σ (k + 1) f args Q R := by
  obtain ⟨name, qual, pms, body, sc, dV, kV, doc, pm, cdv, ct, oc, an, od, osl, own, h1, h2, h3, rfl, rfl, h6⟩ := I
  have D := defOk_says h3
  intro r A E L m Fs M X s vs Q' S hr hR hvs HQ HX
  have hvl : vs.length = params.length := by rw [← hl, hvs.length]
  refine r_callC D S hR h1 h2 (h6 s vs S.live hvl) (zip_fst hvl.symm) fun env L' cs s' V hfr hk hcs hcn hap hcM S' hR' => ?_
  have E0 := entry (G := G) (own := own) D hcs hcn hcM hvs hl hr S'
  refine sv_ok hK Pm hv itv 60 (cxs_of D hcs hcn hap) (gok_of hG) V (fun h => nomatch h) hR' E0 S.mnd hw (fun fl fl' ρ' O' m' M' X' s2 hX S2 hm hq => ?_) fun v msg m' s2 X' hX hrz hm => ?_
  · have S3 := (S2.st.subM S2.keep S.mnd).pop
    cases hm with
    | next => exact HQ _ _ _ _ hX S3 repN hq
    | cont => exact hq.elim
    | ret hp => exact HQ _ _ _ _ hX S3 hp hq
  · exact Pm.leave hrz hfr hk (hR.low (Nat.zero_le _)) fun s3 hr3 => HX _ _ _ _ hX hr3 hm
end
end Mine

end
section
open PySem PySem.W PySem.Calls PyProof.Rows PySem.Spec
set_option Elab.async false
set_option maxRecDepth 100000
set_option maxHeartbeats 8000000
set_option linter.unusedVariables false
namespace Mine
noncomputable def gtab : List (PySem.Str × Gl) := [(Str.ofString "get_attr", Gl.fn 28), (Str.ofString "names_of", Gl.fn 33), (Str.ofString "dim_of", Gl.fn 40), (Str.ofString "dimnames_of", Gl.fn 45), (Str.ofString "is_finite", Gl.fn 84), (Str.ofString "to_whole", Gl.fn 91), (Str.ofString "whole_subscripts", Gl.fn 98), (Str.ofString "logical_places", Gl.fn 105), (Str.ofString "whole_places", Gl.fn 110), (Str.ofString "first_places", Gl.fn 117), (Str.ofString "name_places", Gl.fn 124), (Str.ofString "positions", Gl.fn 138), (Str.ofString "is_matrix_index", Gl.fn 159), (Str.ofString "matrix_index", Gl.fn 179), (Str.ofString "Null", Gl.fn 196), (Str.ofString "Missing", Gl.fn 217), (Str.ofString "Vector", Gl.fn 246), (Str.ofString "Refusal", Gl.fn 75), (Str.ofString "character", Gl.fn 286), (Str.ofString "named", Gl.fn 293), (Str.ofString "is_vector", Gl.fn 300), (Str.ofString "lacking_item", Gl.fn 314), (Str.ofString "result_kind", Gl.fn 328), (Str.ofString "items_at", Gl.fn 335), (Str.ofString "names_at", Gl.fn 342), (Str.ofString "subset_vector", Gl.fn 349), (Str.ofString "subset_any", Gl.fn 427), (Str.ofString "_law_row", Gl.fn 434), (Str.ofString "_law_next", Gl.fn 441), (Str.ofString "_law_reduced", Gl.fn 448), (Str.ofString "_law_text", Gl.fn 455), (Str.ofString "_law_number", Gl.fn 462), (Str.ofString "_law_index", Gl.fn 467), (Str.ofString "_law_cut", Gl.fn 474), (Str.ofString "_law_due", Gl.fn 479), (Str.ofString "_law_item", Gl.fn 486), (Str.ofString "_law_view", Gl.fn 491), (Str.ofString "_law_kept", Gl.fn 498), (Str.ofString "_law_vector", Gl.fn 503), (Str.ofString "len", Gl.bi BiN.len), (Str.ofString "abs", Gl.bi BiN.abs), (Str.ofString "chr", Gl.bi BiN.chr), (Str.ofString "list", Gl.bi BiN.list), (Str.ofString "range", Gl.bi BiN.range), (Str.ofString "max", Gl.bi BiN.max), (Str.ofString "isinstance", Gl.bi BiN.isinstance), (Str.ofString "str", Gl.bi BiN.str)]
noncomputable def G0 (x : PySem.Str) : Gl := (gtab.lookup x).getD .no
theorem G0_mem {x : PySem.Str} {g : Gl} (h : G0 x = g) (hg : g ≠ .no) : (x, g) ∈ gtab := by
  unfold G0 at h
  cases e : gtab.lookup x with
  | none => rw [e] at h; exact absurd h.symm hg
  | some y => rw [e] at h; simp only [Option.getD_some] at h; subst h; exact lookup_mem' e
noncomputable def bstr : BiN → PySem.Str
  | .len => "len" | .abs => "abs" | .chr => "chr" | .list => "list" | .range => "range" | .max => "max" | .isinstance => "isinstance" | .str => "str"
theorem bstr_ok : ∀ b : BiN, bootBuiltins (bstr b) = some b.val
  | .len => b_len | .abs => b_abs | .chr => b_chr | .list => b_list | .range => b_range | .max => b_max | .isinstance => b_isinstance | .str => b_str
noncomputable def gckF (P : Params) (x : PySem.Str) (f : Addr) : Bool := match nsIn (frag P) mainGlobals x with | some (some (.ref g)) => Nat.beq g f && keepIn (frag P) (.ref f) | _ => false
noncomputable def gckB (P : Params) (x : PySem.Str) (b : BiN) : Bool := match nsIn (frag P) mainGlobals x with | some none => decide (x = bstr b) | _ => false
noncomputable def gck (P : Params) (p : PySem.Str × Gl) : Bool := match p.2 with | .fn f => gckF P p.1 f | .bi b => gckB P p.1 b | .no => true
theorem gckF_ok {P : Params} {x : PySem.Str} {f : Addr} (h : gckF P x f = true) : nsIn (frag P) mainGlobals x = some (some (.ref f)) ∧ keepIn (frag P) (.ref f) = true := by
  unfold gckF at h
  split at h
  · next g e =>
    have ⟨h1, h2⟩ := (Bool.and_eq_true _ _).mp h
    have := Nat.eq_of_beq_eq_true h1
    subst this
    exact ⟨e, h2⟩
  · cases h
theorem gckB_ok {P : Params} {x : PySem.Str} {b : BiN} (h : gckB P x b = true) : nsIn (frag P) mainGlobals x = some none ∧ bootBuiltins x = some b.val := by
  unfold gckB at h
  split at h
  · next e => exact ⟨e, (of_decide_eq_true h) ▸ bstr_ok b⟩
  · cases h
theorem gtab_ok (P : Params) : gtab.all (gck P) = true := by kernel_rfl
theorem gck_at {P : Params} {x : PySem.Str} {g : Gl} (h : G0 x = g) (hg : g ≠ .no) : gck P (x, g) = true := List.all_eq_true.mp (gtab_ok P) _ (G0_mem h hg)
theorem glob_ok {σ : Sig} (hK : KK σ) : GlobOK σ G0 := by
  refine ⟨fun x f h => ?_, fun x b h => ?_⟩ <;> rw [hK]
  · exact gckF_ok (gck_at h (fun e => nomatch e))
  · exact gckB_ok (gck_at h (fun e => nomatch e))
section
variable {body : List Stmt} {sc : Scope} {name qual : PySem.Str} {doc pm cd : Value} {an : Option Addr}
theorem seq_none : seqItems? Value.none = pure none := rfl
theorem fm_some {α : Type} {f : α → Option α} : ∀ {l : List α}, (∀ p ∈ l, f p = some p) → l.filterMap f = l
  | [], _ => rfl
  | a :: l, h => by rw [List.filterMap_cons, h a (.head _), fm_some fun p hp => h p (.tail _ hp)]
theorem bind_gen {ps : List PySem.Str} {as : List Arg} (h : as.map (·.arg) = ps) (hn : ps.Nodup) {vals : List Value} (hl : vals.length = ps.length) :
    bindArgs (fnOf name qual ⟨[], as, none, [], [], none, []⟩ body sc .none .none doc pm an cd .none) ⟨vals, []⟩ = pure (ps.zip vals) := by
  have hz : (ps.zip vals).map (·.1) = ps := zip_fst hl.symm
  have hlk : ∀ p ∈ ps.zip vals, (ps.zip vals).lookup p.1 = some p.2 := fun p hp => lookup_nodup' (by rw [hz]; exact hn) hp
  have hm : (ps.filter fun n => ((ps.zip vals).lookup n).isNone) = [] := by
    rw [List.filter_eq_nil_iff]
    intro n hn'
    rw [← hz] at hn'
    obtain ⟨p, hp, rfl⟩ := List.mem_map.mp hn'
    rw [hlk p hp]; simp
  have hf : ps.filterMap (fun n => ((ps.zip vals).lookup n).map fun x => (n, x)) = ps.zip vals := by
    conv => lhs; arg 2; rw [← hz]
    rw [List.filterMap_map]
    exact fm_some fun p hp => by simp [hlk p hp]
  subst h
  have ht : ∀ n, as.length ≤ n → List.take n (as.map (·.arg)) = as.map (·.arg) := fun n hn => List.take_of_length_le (by simpa using hn)
  unfold bindArgs fnOf
  simp [seq_none, hl, hm, ht]
  rw [← List.filterMap_map]
  exact congrArg pure hf
end
noncomputable def dck (P : Params) (w : Arguments × List Stmt × Scope) (cd : Value) (qual : PySem.Str) (params : List PySem.Str) (d : Nat) : Bool :=
  codeIn (frag P) cd qual && (defOk params w.2.2 && (Nat.beq w.2.2.names.length d && decide (w.1.args.map (·.arg) = params ∧ params.Nodup)))
theorem isd {σ : Sig} (hK : KK σ) {f : Addr} {w : Arguments × List Stmt × Scope} {name qual : PySem.Str} {doc pm cd : Value} {params : List PySem.Str} {d : Nat} {ir : List IS}
    (h : (frag σ.w.params).lookup f = some (fno name qual w .none .none doc pm none cd .none 3 0)) (own : List PySem.Str) (hc : dck σ.w.params w cd qual params d = true)
    (h1 : w.1 = ⟨[], w.1.args, none, [], [], none, []⟩) (hir : compSs 60 (cxOf G0 w.2.2.names own) w.2.1 = ir) : IsDef σ f G0 params d ir := by
  have ⟨c1, hc⟩ := (Bool.and_eq_true _ _).mp hc
  have ⟨c2, hc⟩ := (Bool.and_eq_true _ _).mp hc
  have ⟨c3, c4⟩ := (Bool.and_eq_true _ _).mp hc
  have ⟨c4, c5⟩ := of_decide_eq_true c4
  exact ⟨_, _, _, _, _, _, _, _, _, _, _, _, _, _, _, own, by rw [hK]; exact h, by rw [hK]; exact c1, c2, Nat.eq_of_beq_eq_true c3, hir, fun s vals _ hl => by rw [h1]; exact BindsTo.of_eq (bind_gen c4 c5 hl)⟩
noncomputable def ir_get_attr : List IS := [
  .ite (.cmp .Is (.fld .attrs (.var 0)) (.lit .none)) [.ret (.lit .none)] [],
  .ret (.getm (.fld .attrs (.var 0)) (.var 1))]
theorem is_get_attr {σ : Sig} (hK : KK σ) : IsDef σ 28 G0 ["v", "name"] 2 ir_get_attr :=
  isd hK (at_28 _) [] (by kernel_rfl) (by kernel_rfl) (by kernel_rfl)
noncomputable def ir_names_of : List IS := [
  .ite (.cmp .Eq (.fld .kind (.var 0)) (.lit (.str "language"))) [.for 1 .bad [.ite (.cmp .IsNot (.var 1) (.lit .none)) [.ret (.lc 11 (.ite (.cmp .Is (.var 11) (.lit .none)) (.lit (.str "")) (.var 11)) .bad none)] []], .ret (.lit .none)] [],
  .ite (.cmp .Eq (.fld .kind (.var 0)) (.lit (.str "environment"))) [.ret .bad] [],
  .asg 2 (.call 40 [(.var 0)]),
  .ite (.and (.cmp .IsNot (.var 2) (.lit .none)) (.cmp .Eq (.bi .len (.var 2)) (.lit (.int 1)))) [.asg 3 (.call 45 [(.var 0)]), .ret (.ite (.cmp .Is (.var 3) (.lit .none)) (.lit .none) (.idx (.var 3) (.lit (.int 0))))] [],
  .asg 4 (.call 28 [(.var 0), (.lit (.str "names"))]),
  .ite (.cmp .Is (.var 4) (.lit .none)) [.ret (.lit .none)] [],
  .ret (.bi .list (.fld .items (.var 4)))]
theorem is_names_of {σ : Sig} (hK : KK σ) : IsDef σ 33 G0 ["v"] 11 ir_names_of :=
  isd hK (at_33 _) [] (by kernel_rfl) (by kernel_rfl) (by kernel_rfl)
noncomputable def ir_dim_of : List IS := [
  .asg 1 (.call 28 [(.var 0), (.lit (.str "dim"))]),
  .ite (.cmp .Is (.var 1) (.lit .none)) [.ret (.lit .none)] [],
  .ret (.bi .list (.fld .items (.var 1)))]
theorem is_dim_of {σ : Sig} (hK : KK σ) : IsDef σ 40 G0 ["v"] 4 ir_dim_of :=
  isd hK (at_40 _) [] (by kernel_rfl) (by kernel_rfl) (by kernel_rfl)
noncomputable def ir_dimnames_of : List IS := [
  .asg 1 (.call 28 [(.var 0), (.lit (.str "dimnames"))]),
  .ite (.cmp .Is (.var 1) (.lit .none)) [.ret (.lit .none)] [],
  .ret (.lc 3 (.ite (.cmp .Eq (.fld .kind (.var 3)) (.lit (.str "NULL"))) (.lit .none) (.bi .list (.fld .items (.var 3)))) (.fld .items (.var 1)) none)]
theorem is_dimnames_of {σ : Sig} (hK : KK σ) : IsDef σ 45 G0 ["v"] 3 ir_dimnames_of :=
  isd hK (at_45 _) [] (by kernel_rfl) (by kernel_rfl) (by kernel_rfl)
noncomputable def ir_is_finite : List IS := [
  .ret (.and (.cmp .IsNot (.var 0) (.lit .none)) (.cmp .Gt (.idx (.var 0) (.lit (.int 1))) (.lit (.int 0))))]
theorem is_is_finite {σ : Sig} (hK : KK σ) : IsDef σ 84 G0 ["x"] 1 ir_is_finite :=
  isd hK (at_84 _) [] (by kernel_rfl) (by kernel_rfl) (by kernel_rfl)
noncomputable def ir_to_whole : List IS := [
  .ite (.not (.call 84 [(.var 0)])) [.ret (.lit .none)] [],
  .asg 1 (.bin .FloorDiv (.bi .abs (.idx (.var 0) (.lit (.int 0)))) (.idx (.var 0) (.lit (.int 1)))),
  .ret (.ite (.cmp .GtE (.idx (.var 0) (.lit (.int 0))) (.lit (.int 0))) (.var 1) (.bin .Sub (.lit (.int 0)) (.var 1)))]
theorem is_to_whole {σ : Sig} (hK : KK σ) : IsDef σ 91 G0 ["x"] 4 ir_to_whole :=
  isd hK (at_91 _) [] (by kernel_rfl) (by kernel_rfl) (by kernel_rfl)
noncomputable def ir_whole_subscripts : List IS := [
  .ite (.cmp .Eq (.fld .kind (.var 0)) (.lit (.str "integer"))) [.ret (.fld .items (.var 0))] [],
  .newL 1,
  .for 2 (.fld .items (.var 0)) [.ite (.or (.cmp .Is (.var 2) (.lit .none)) (.cmp .Eq (.idx (.var 2) (.lit (.int 1))) (.lit (.int 0)))) [.app 1 (.lit .none)] [.app 1 (.call 91 [(.var 2)])]],
  .frz 1,
  .ret (.var 1)]
theorem is_whole_subscripts {σ : Sig} (hK : KK σ) : IsDef σ 98 G0 ["ix"] 4 ir_whole_subscripts :=
  isd hK (at_98 _) ["found"] (by kernel_rfl) (by kernel_rfl) (by kernel_rfl)
noncomputable def ir_logical_places : List IS := [
  .asg 2 (.bi .len (.var 0)),
  .ite (.cmp .Eq (.var 2) (.lit (.int 0))) [.ret (.list [])] [],
  .newL 3,
  .for 4 (.bi .range (.max2 (.var 1) (.var 2))) [.asg 5 (.idx (.var 0) (.bin .Mod (.var 4) (.var 2))), .ite (.cmp .Is (.var 5) (.lit .none)) [.app 3 (.lit .none)] [.ite (.cmp .NotEq (.var 5) (.lit (.int 0))) [.app 3 (.var 4)] []]],
  .frz 3,
  .ret (.var 3)]
theorem is_logical_places {σ : Sig} (hK : KK σ) : IsDef σ 105 G0 ["items", "n"] 9 ir_logical_places :=
  isd hK (at_105 _) ["places"] (by kernel_rfl) (by kernel_rfl) (by kernel_rfl)
noncomputable def ir_whole_places : List IS := [
  .newL 2,
  .newD 3,
  .asg 4 (.lit (.bool false)),
  .for 5 (.var 0) [.ite (.cmp .Is (.var 5) (.lit .none)) [.asg 4 (.lit (.bool true)), .app 2 (.lit .none)] [.ite (.cmp .Gt (.var 5) (.lit (.int 0))) [.app 2 (.bin .Sub (.var 5) (.lit (.int 1)))] [.ite (.cmp .Lt (.var 5) (.lit (.int 0))) [.seti 3 (.bin .Sub (.neg (.var 5)) (.lit (.int 1))) (.lit (.bool true))] []]]],
  .frz 3,
  .ite (.cmp .Eq (.bi .len (.var 3)) (.lit (.int 0))) [.frz 2, .ret (.var 2)] [],
  .ite (.var 4) [.raise (.lit (.str "can't mix NAs with negative subscripts"))] [],
  .frz 2,
  .ite (.cmp .Gt (.bi .len (.var 2)) (.lit (.int 0))) [.raise (.lit (.str "can't mix positive and negative subscripts"))] [],
  .ret (.lc 9 (.var 9) (.bi .range (.var 1)) (some (.inv .NotIn (.var 9) 3)))]
theorem is_whole_places {σ : Sig} (hK : KK σ) : IsDef σ 110 G0 ["items", "n"] 9 ir_whole_places :=
  isd hK (at_110 _) ["places", "left_out"] (by kernel_rfl) (by kernel_rfl) (by kernel_rfl)
noncomputable def ir_first_places : List IS := [
  .newD 1,
  .ite (.cmp .IsNot (.var 0) (.lit .none)) [.for 2 (.bi .range (.bi .len (.var 0))) [.asg 3 (.idx (.var 0) (.var 2)), .ite (.and (.cmp .IsNot (.var 3) (.lit .none)) (.and (.cmp .NotEq (.var 3) (.lit (.str ""))) (.inv .NotIn (.var 3) 1))) [.seti 1 (.var 3) (.var 2)] []]] [],
  .frz 1,
  .ret (.var 1)]
theorem is_first_places {σ : Sig} (hK : KK σ) : IsDef σ 117 G0 ["names"] 6 ir_first_places :=
  isd hK (at_117 _) ["table"] (by kernel_rfl) (by kernel_rfl) (by kernel_rfl)
noncomputable def ir_name_places : List IS := [
  .asg 2 (.call 117 [(.var 1)]),
  .newL 3,
  .for 4 (.var 0) [.ite (.and (.cmp .IsNot (.var 4) (.lit .none)) (.cmp .In (.var 4) (.var 2))) [.app 3 (.idx (.var 2) (.var 4))] [.app 3 (.lit .none)]],
  .frz 3,
  .ret (.var 3)]
theorem is_name_places {σ : Sig} (hK : KK σ) : IsDef σ 124 G0 ["texts", "names"] 6 ir_name_places :=
  isd hK (at_124 _) ["places"] (by kernel_rfl) (by kernel_rfl) (by kernel_rfl)
noncomputable def ir_positions : List IS := [
  .asg 4 (.fld .kind (.var 0)),
  .ite (.cmp .Eq (.var 4) (.lit (.str "missing"))) [.ret (.tup [(.bi .list (.bi .range (.var 1))), (.lit .none)])] [],
  .ite (.cmp .Eq (.var 4) (.lit (.str "NULL"))) [.ret (.tup [(.list []), (.lit .none)])] [],
  .ite (.cmp .Eq (.var 4) (.lit (.str "logical"))) [.ret (.tup [(.call 105 [(.fld .items (.var 0)), (.var 1)]), (.lit .none)])] [],
  .ite (.or (.cmp .Eq (.var 4) (.lit (.str "integer"))) (.cmp .Eq (.var 4) (.lit (.str "double")))) [.ret (.tup [(.call 110 [(.call 98 [(.var 0)]), (.var 1)]), (.lit .none)])] [],
  .ite (.cmp .Eq (.var 4) (.lit (.str "character"))) [.ite (.var 3) [.ret .bad] [], .ret (.tup [(.call 124 [(.fld .items (.var 0)), (.var 2)]), (.lit .none)])] [],
  .raise (.fst "invalid subscript type '" (.var 4) "'")]
theorem is_positions {σ : Sig} (hK : KK σ) : IsDef σ 138 G0 ["ix", "n", "names", "extend"] 13 ir_positions :=
  isd hK (at_138 _) [] (by kernel_rfl) (by kernel_rfl) (by kernel_rfl)
noncomputable def ir_is_matrix_index : List IS := [
  .ite (.or (.cmp .Is (.var 1) (.lit .none)) (.cmp .NotIn (.fld .kind (.var 0)) (.tup [(.lit (.str "integer")), (.lit (.str "double")), (.lit (.str "character"))]))) [.ret (.lit (.bool false))] [],
  .asg 2 (.call 40 [(.var 0)]),
  .ret (.and (.cmp .IsNot (.var 2) (.lit .none)) (.and (.cmp .Eq (.bi .len (.var 2)) (.lit (.int 2))) (.cmp .Eq (.idx (.var 2) (.lit (.int 1))) (.bi .len (.var 1)))))]
theorem is_is_matrix_index {σ : Sig} (hK : KK σ) : IsDef σ 159 G0 ["ix", "dims"] 5 ir_is_matrix_index :=
  isd hK (at_159 _) [] (by kernel_rfl) (by kernel_rfl) (by kernel_rfl)
noncomputable def ir_matrix_index : List IS := [
  .ite (.not (.call 159 [(.var 0), (.var 1)])) [.ret (.lit .none)] [],
  .ite (.cmp .Eq (.fld .kind (.var 0)) (.lit (.str "character"))) [.asg 3 .bad] [.asg 3 (.call 98 [(.var 0)])],
  .asg 4 (.idx (.call 40 [(.var 0)]) (.lit (.int 0))),
  .newL 5,
  .for 6 (.bi .range (.var 4)) [.asg 7 (.lc 16 (.idx (.var 3) (.bin .Add (.bin .Mult (.var 16) (.var 4)) (.var 6))) (.bi .range (.bi .len (.var 1))) none), .asg 8 .bad, .ite (.or (.cmp .Is (.var 8) (.lit .none)) (.cmp .GtE (.var 8) (.lit (.int 0)))) [.app 5 (.var 8)] []],
  .frz 5,
  .ret (.var 5)]
theorem is_matrix_index {σ : Sig} (hK : KK σ) : IsDef σ 179 G0 ["ix", "dims", "dimnames"] 16 ir_matrix_index :=
  ⟨_, _, _, _, _, _, _, _, _, _, _, _, _, _, _, ["places"], by rw [hK]; exact at_179 _, by rw [hK]; kernel_rfl, by kernel_rfl, by kernel_rfl, by kernel_rfl, fun s vals hk hl => len3 hl fun v0 v1 v2 => binds_K hk rfl (by rw [hK]; exact at_174 _) rfl rfl rfl⟩
noncomputable def ir_is_vector : List IS := [
  .ret (.bi .isVec (.var 0))]
theorem is_is_vector {σ : Sig} (hK : KK σ) : IsDef σ 300 G0 ["v"] 3 ir_is_vector :=
  isd hK (at_300 _) [] (by kernel_rfl) (by kernel_rfl) (by kernel_rfl)
noncomputable def ir_lacking_item : List IS := [
  .ite (.cmp .In (.var 0) (.tup [(.lit (.str "list")), (.lit (.str "expression")), (.lit (.str "pairlist"))])) [.ret (.call 196 [])] [],
  .ret (.lit .none)]
theorem is_lacking_item {σ : Sig} (hK : KK σ) : IsDef σ 314 G0 ["kind"] 2 ir_lacking_item :=
  isd hK (at_314 _) [] (by kernel_rfl) (by kernel_rfl) (by kernel_rfl)
noncomputable def ir_result_kind : List IS := [
  .ite (.cmp .Eq (.var 0) (.lit (.str "pairlist"))) [.ret (.lit (.str "list"))] [],
  .ret (.var 0)]
theorem is_result_kind {σ : Sig} (hK : KK σ) : IsDef σ 328 G0 ["kind"] 1 ir_result_kind :=
  isd hK (at_328 _) [] (by kernel_rfl) (by kernel_rfl) (by kernel_rfl)
noncomputable def ir_items_at : List IS := [
  .newL 2,
  .asg 3 (.bi .len (.fld .items (.var 0))),
  .for 4 (.var 1) [.ite (.or (.cmp .Is (.var 4) (.lit .none)) (.cmp .GtE (.var 4) (.var 3))) [.app 2 (.call 314 [(.fld .kind (.var 0))])] [.app 2 (.idx (.fld .items (.var 0)) (.var 4))]],
  .frz 2,
  .ret (.var 2)]
theorem is_items_at {σ : Sig} (hK : KK σ) : IsDef σ 335 G0 ["v", "places"] 7 ir_items_at :=
  isd hK (at_335 _) ["found"] (by kernel_rfl) (by kernel_rfl) (by kernel_rfl)
noncomputable def ir_names_at : List IS := [
  .newL 2,
  .for 3 (.var 1) [.ite (.or (.cmp .Is (.var 3) (.lit .none)) (.cmp .GtE (.var 3) (.bi .len (.var 0)))) [.app 2 (.lit (.str "<NA>"))] [.app 2 (.idx (.var 0) (.var 3))]],
  .frz 2,
  .ret (.var 2)]
theorem is_names_at {σ : Sig} (hK : KK σ) : IsDef σ 342 G0 ["names", "places"] 5 ir_names_at :=
  isd hK (at_342 _) ["found"] (by kernel_rfl) (by kernel_rfl) (by kernel_rfl)
noncomputable def ir_subset_vector : List IS := [
  .asg 2 (.call 33 [(.var 0)]),
  .asg 3 (.idx (.call 138 [(.var 1), (.bi .len (.fld .items (.var 0))), (.var 2), (.lit (.bool false))]) (.lit (.int 0))),
  .newV 4 (.call 328 [(.fld .kind (.var 0))]) (.call 335 [(.var 0), (.var 3)]),
  .ite (.cmp .IsNot (.var 2) (.lit .none)) [.named 4 (.call 342 [(.var 2), (.var 3)])] [],
  .frz 4,
  .ret (.var 4)]
theorem is_subset_vector {σ : Sig} (hK : KK σ) : IsDef σ 349 G0 ["v", "ix"] 13 ir_subset_vector :=
  isd hK (at_349 _) ["result"] (by kernel_rfl) (by kernel_rfl) (by kernel_rfl)
noncomputable def ir_subset_any : List IS := [
  .ite (.cmp .Eq (.fld .kind (.var 0)) (.lit (.str "NULL"))) [.ret (.call 196 [])] [],
  .ite (.or (.cmp .Eq (.bi .len (.var 1)) (.lit (.int 0))) (.and (.cmp .Eq (.bi .len (.var 1)) (.lit (.int 1))) (.cmp .Eq (.fld .kind (.idx (.var 1) (.lit (.int 0)))) (.lit (.str "missing"))))) [.ite (.and (.cmp .NotEq (.fld .kind (.var 0)) (.lit (.str "language"))) (.not (.call 300 [(.var 0)]))) [.bad] [], .ret (.var 0)] [],
  .ite (.cmp .Eq (.fld .kind (.var 0)) (.lit (.str "language"))) [.ret .bad] [],
  .ite (.not (.call 300 [(.var 0)])) [.bad] [],
  .asg 4 (.call 40 [(.var 0)]),
  .ite (.cmp .Eq (.bi .len (.var 1)) (.lit (.int 1))) [.asg 5 (.call 179 [(.idx (.var 1) (.lit (.int 0))), (.var 4), (.call 45 [(.var 0)])]), .ite (.cmp .IsNot (.var 5) (.lit .none)) [.ret (.call 246 [(.call 328 [(.fld .kind (.var 0))]), (.call 335 [(.var 0), (.var 5)])])] [], .ite (.and (.cmp .IsNot (.var 4) (.lit .none)) (.cmp .Eq (.bi .len (.var 4)) (.lit (.int 1)))) [.ret .bad] [], .ret (.call 349 [(.var 0), (.idx (.var 1) (.lit (.int 0)))])] [],
  .ite (.or (.cmp .Is (.var 4) (.lit .none)) (.cmp .NotEq (.bi .len (.var 4)) (.bi .len (.var 1)))) [.raise (.lit (.str "incorrect number of dimensions"))] [],
  .ret .bad]
theorem is_subset_any {σ : Sig} (hK : KK σ) : IsDef σ 427 G0 ["v", "indexes", "drop", "exact"] 21 ir_subset_any :=
  isd hK (at_427 _) [] (by kernel_rfl) (by kernel_rfl) (by kernel_rfl)
noncomputable def ir_law_text : List IS := [
  .asg 1 (.bin .Mod (.call 441 [(.var 0)]) (.lit (.int 8))),
  .ret (.idx (.list [(.lit (.str "a")), (.lit (.str "b")), (.lit (.str "ab")), (.lit (.str "abc")), (.lit (.str "")), (.lit .none), (.lit (.str "c")), (.bi .chr (.bin .Add (.lit (.int 97)) (.bin .Mod (.call 441 [(.var 0)]) (.lit (.int 26)))))]) (.var 1))]
theorem is_law_text {σ : Sig} (hK : KK σ) : IsDef σ 455 G0 ["row"] 4 ir_law_text :=
  isd hK (at_455 _) [] (by kernel_rfl) (by kernel_rfl) (by kernel_rfl)
noncomputable def ir_law_number : List IS := [
  .asg 1 (.bin .Mod (.call 441 [(.var 0)]) (.lit (.int 10))),
  .ite (.cmp .Eq (.var 1) (.lit (.int 0))) [.ret (.lit .none)] [],
  .ite (.cmp .Lt (.var 1) (.lit (.int 8))) [.ret (.tup [(.ite (.cmp .Gt (.var 1) (.lit (.int 5))) (.bin .Sub (.bin .Mod (.call 441 [(.var 0)]) (.lit (.int 14))) (.lit (.int 4))) (.bin .Mod (.call 441 [(.var 0)]) (.lit (.int 12)))), (.lit (.int 1))])] [],
  .ite (.cmp .Eq (.var 1) (.lit (.int 8))) [.ret (.idx (.list [(.tup [(.lit (.int 0)), (.lit (.int 0))]), (.tup [(.lit (.int 1)), (.lit (.int 0))]), (.tup [(.neg (.lit (.int 1))), (.lit (.int 0))])]) (.bin .Mod (.call 441 [(.var 0)]) (.lit (.int 3))))] [],
  .asg 2 (.bin .Sub (.bin .Mod (.call 441 [(.var 0)]) (.lit (.int 41))) (.lit (.int 10))),
  .ret (.ite (.cmp .Eq (.bin .Mod (.var 2) (.lit (.int 2))) (.lit (.int 0))) (.tup [(.bin .FloorDiv (.var 2) (.lit (.int 2))), (.lit (.int 1))]) (.tup [(.var 2), (.lit (.int 2))]))]
theorem is_law_number {σ : Sig} (hK : KK σ) : IsDef σ 462 G0 ["row"] 4 ir_law_number :=
  isd hK (at_462 _) [] (by kernel_rfl) (by kernel_rfl) (by kernel_rfl)
noncomputable def ir_law_index : List IS := [
  .asg 1 (.bin .Mod (.call 441 [(.var 0)]) (.lit (.int 7))),
  .asg 2 (.bin .Mod (.call 441 [(.var 0)]) (.lit (.int 10))),
  .ite (.cmp .Eq (.var 1) (.lit (.int 0))) [.ret (.call 217 [])] [],
  .ite (.cmp .Eq (.var 1) (.lit (.int 1))) [.ret (.call 196 [])] [],
  .ite (.cmp .Eq (.var 1) (.lit (.int 2))) [.ret (.call 246 [(.lit (.str "logical")), (.lc 9 (.idx (.list [(.lit (.int 1)), (.lit (.int 0)), (.lit .none)]) (.bin .Mod (.call 441 [(.var 0)]) (.lit (.int 3)))) (.bi .range (.var 2)) none)])] [],
  .ite (.cmp .Eq (.var 1) (.lit (.int 3))) [.asg 3 (.lc 9 (.call 462 [(.var 0)]) (.bi .range (.var 2)) none), .ret (.call 246 [(.lit (.str "integer")), (.lc 9 (.ite (.or (.cmp .Is (.var 9) (.lit .none)) (.cmp .NotEq (.idx (.var 9) (.lit (.int 1))) (.lit (.int 1)))) (.lit .none) (.idx (.var 9) (.lit (.int 0)))) (.var 3) none)])] [],
  .ite (.cmp .Eq (.var 1) (.lit (.int 4))) [.ret (.call 246 [(.lit (.str "double")), (.lc 9 (.call 462 [(.var 0)]) (.bi .range (.var 2)) none)])] [],
  .ite (.cmp .Eq (.var 1) (.lit (.int 5))) [.ret (.call 246 [(.lit (.str "character")), (.lc 9 (.call 455 [(.var 0)]) (.bi .range (.var 2)) none)])] [],
  .ret (.call 246 [(.lit (.str "list")), (.list [])])]
theorem is_law_index {σ : Sig} (hK : KK σ) : IsDef σ 467 G0 ["row"] 9 ir_law_index :=
  isd hK (at_467 _) [] (by kernel_rfl) (by kernel_rfl) (by kernel_rfl)
noncomputable def ir_law_cut : List IS := [
  .newL 2,
  .for 3 (.var 1) [.ite (.or (.cmp .Is (.var 3) (.lit .none)) (.and (.cmp .Eq (.var 0) (.lit (.str "double"))) (.cmp .Eq (.idx (.var 3) (.lit (.int 1))) (.lit (.int 0))))) [.app 2 (.lit .none)] [.ite (.cmp .Eq (.var 0) (.lit (.str "double"))) [.app 2 (.ite (.cmp .GtE (.idx (.var 3) (.lit (.int 0))) (.lit (.int 0))) (.bin .FloorDiv (.idx (.var 3) (.lit (.int 0))) (.idx (.var 3) (.lit (.int 1)))) (.neg (.bin .FloorDiv (.neg (.idx (.var 3) (.lit (.int 0)))) (.idx (.var 3) (.lit (.int 1))))))] [.app 2 (.var 3)]]],
  .frz 2,
  .ret (.var 2)]
theorem is_law_cut {σ : Sig} (hK : KK σ) : IsDef σ 474 G0 ["kind", "items"] 4 ir_law_cut :=
  isd hK (at_474 _) ["found"] (by kernel_rfl) (by kernel_rfl) (by kernel_rfl)
noncomputable def ir_law_due : List IS := [
  .asg 4 (.fld .kind (.var 0)),
  .ite (.cmp .Eq (.var 4) (.lit (.str "missing"))) [.ret (.tup [(.bi .list (.bi .range (.var 1))), (.lit .none)])] [],
  .ite (.cmp .Eq (.var 4) (.lit (.str "NULL"))) [.ret (.tup [(.list []), (.lit .none)])] [],
  .ite (.cmp .Eq (.var 4) (.lit (.str "list"))) [.ret (.lit (.str "invalid subscript type 'list'"))] [],
  .ite (.cmp .Eq (.var 4) (.lit (.str "logical"))) [.newL 5, .for 6 (.bi .range (.ite (.cmp .NotEq (.fld .items (.var 0)) (.list [])) (.max2 (.var 1) (.bi .len (.fld .items (.var 0)))) (.lit (.int 0)))) [.asg 7 (.idx (.fld .items (.var 0)) (.bin .Mod (.var 6) (.bi .len (.fld .items (.var 0))))), .ite (.cmp .NotEq (.var 7) (.lit (.int 0))) [.app 5 (.ite (.cmp .Eq (.var 7) (.lit (.int 1))) (.var 6) (.lit .none))] []], .frz 5, .ret (.tup [(.var 5), (.lit .none)])] [],
  .ite (.cmp .Eq (.var 4) (.lit (.str "character"))) [.newL 5, .newL 8, .for 7 (.fld .items (.var 0)) [.asg 9 (.and (.cmp .IsNot (.var 7) (.lit .none)) (.cmp .NotEq (.var 7) (.lit (.str "")))), .ite (.and (.var 9) (.and (.cmp .IsNot (.var 2) (.lit .none)) (.cmp .In (.var 7) (.var 2)))) [.app 5 (.lidx (.var 2) (.var 7))] [.ite (.not (.var 3)) [.app 5 (.lit .none)] [.ite (.and (.var 9) (.inv .In (.var 7) 8)) [.frz 8, .app 5 (.bin .Add (.var 1) (.lidx (.var 8) (.var 7)))] [.frz 8, .app 5 (.bin .Add (.var 1) (.bi .len (.var 8))), .app 8 (.var 7)]]]], .frz 5, .frz 8, .ret (.tup [(.var 5), (.ite (.var 3) (.var 8) (.lit .none))])] [],
  .asg 10 (.call 474 [(.var 4), (.fld .items (.var 0))]),
  .asg 11 (.lc 17 (.var 17) (.var 10) (some (.and (.cmp .IsNot (.var 17) (.lit .none)) (.cmp .Lt (.var 17) (.lit (.int 0)))))),
  .ite (.cmp .Eq (.var 11) (.list [])) [.ret (.tup [(.lc 17 (.ite (.cmp .Is (.var 17) (.lit .none)) (.lit .none) (.bin .Sub (.var 17) (.lit (.int 1)))) (.var 10) (some (.cmp .NotEq (.var 17) (.lit (.int 0))))), (.lit .none)])] [],
  .ite (.cmp .In (.lit .none) (.var 10)) [.ret (.lit (.str "can't mix NAs with negative subscripts"))] [],
  .ite (.cmp .Gt (.bi .max (.var 10)) (.lit (.int 0))) [.ret (.lit (.str "can't mix positive and negative subscripts"))] [],
  .ret (.tup [(.lc 17 (.var 17) (.bi .range (.var 1)) (some (.cmp .NotIn (.bin .Sub (.neg (.var 17)) (.lit (.int 1))) (.var 10)))), (.lit .none)])]
theorem is_law_due {σ : Sig} (hK : KK σ) : IsDef σ 479 G0 ["ix", "n", "names", "extend"] 17 ir_law_due :=
  isd hK (at_479 _) ["found", "found", "added"] (by kernel_rfl) (by kernel_rfl) (by kernel_rfl)
noncomputable def ir_law_item : List IS := [
  .ite (.cmp .Eq (.bin .Mod (.call 441 [(.var 0)]) (.lit (.int 6))) (.lit (.int 5))) [.ret (.lit .none)] [],
  .ite (.cmp .Eq (.var 1) (.lit (.str "logical"))) [.ret (.bin .Mod (.call 441 [(.var 0)]) (.lit (.int 2)))] [],
  .ite (.cmp .Eq (.var 1) (.lit (.str "integer"))) [.ret (.bin .Sub (.bin .Mod (.call 441 [(.var 0)]) (.lit (.int 40))) (.lit (.int 15)))] [],
  .ite (.cmp .Eq (.var 1) (.lit (.str "character"))) [.ret (.idx (.list [(.lit (.str "")), (.lit (.str "a")), (.lit (.str "b")), (.lit (.str "10")), (.lit (.str "TRUE")), (.lit (.str "2.5")), (.bi .chr (.bin .Add (.lit (.int 32)) (.bin .Mod (.call 441 [(.var 0)]) (.lit (.int 90)))))]) (.bin .Mod (.call 441 [(.var 0)]) (.lit (.int 7))))] [],
  .asg 2 (.bin .Mod (.call 441 [(.var 0)]) (.lit (.int 10))),
  .ite (.cmp .Eq (.var 2) (.lit (.int 9))) [.ret (.idx (.list [(.tup [(.lit (.int 0)), (.lit (.int 0))]), (.tup [(.lit (.int 1)), (.lit (.int 0))]), (.tup [(.neg (.lit (.int 1))), (.lit (.int 0))])]) (.bin .Mod (.call 441 [(.var 0)]) (.lit (.int 3))))] [],
  .ret (.call 448 [(.bin .Sub (.bin .Mod (.call 441 [(.var 0)]) (.lit (.int 300))) (.lit (.int 100))), (.idx (.list [(.lit (.int 1)), (.lit (.int 1)), (.lit (.int 2)), (.lit (.int 4))]) (.bin .Mod (.var 2) (.lit (.int 4))))])]
theorem is_law_item {σ : Sig} (hK : KK σ) : IsDef σ 486 G0 ["row", "kind"] 6 ir_law_item :=
  isd hK (at_486 _) [] (by kernel_rfl) (by kernel_rfl) (by kernel_rfl)
noncomputable def ir_law_view : List IS := [
  .ite (.bi .isStr (.var 0)) [.ret (.var 0)] [],
  .ite (.cmp .Eq (.fld .kind (.var 0)) (.lit (.str "NULL"))) [.ret (.lit (.str "NULL"))] [],
  .newD 1,
  .ite (.cmp .IsNot (.fld .attrs (.var 0)) (.lit .none)) [.asg 1 (.dc 5 (.var 5) (.call 491 [(.idx (.fld .attrs (.var 0)) (.var 5))]) (.fld .attrs (.var 0)))] [],
  .ite (.cmp .In (.fld .kind (.var 0)) (.tup [(.lit (.str "list")), (.lit (.str "expression")), (.lit (.str "pairlist"))])) [.frz 1, .ret (.tup [(.fld .kind (.var 0)), (.lc 5 (.call 491 [(.var 5)]) (.fld .items (.var 0)) none), (.var 1)])] [],
  .frz 1,
  .ret (.tup [(.fld .kind (.var 0)), (.bi .list (.fld .items (.var 0))), (.var 1)])]
theorem is_law_view {σ : Sig} (hK : KK σ) : IsDef σ 491 G0 ["v"] 5 ir_law_view :=
  isd hK (at_491 _) ["attrs"] (by kernel_rfl) (by kernel_rfl) (by kernel_rfl)
noncomputable def ir_law_vector : List IS := [
  .asg 1 (.idx (.list [(.lit (.str "integer")), (.lit (.str "logical")), (.lit (.str "double")), (.lit (.str "character")), (.lit (.str "list"))]) (.bin .Mod (.call 441 [(.var 0)]) (.lit (.int 5)))),
  .asg 2 (.bin .Mod (.call 441 [(.var 0)]) (.lit (.int 10))),
  .ite (.cmp .Eq (.var 1) (.lit (.str "list"))) [.asg 3 (.lc 8 (.ite (.cmp .Gt (.bin .Mod (.call 441 [(.var 0)]) (.lit (.int 3))) (.lit (.int 0))) (.call 246 [(.lit (.str "integer")), (.list [(.call 486 [(.var 0), (.lit (.str "integer"))])])]) (.call 196 [])) (.bi .range (.var 2)) none)] [.asg 3 (.lc 8 (.call 486 [(.var 0), (.var 1)]) (.bi .range (.var 2)) none)],
  .newV 4 (.var 1) (.var 3),
  .ite (.cmp .Eq (.bin .Mod (.call 441 [(.var 0)]) (.lit (.int 2))) (.lit (.int 1))) [.setA 4 "names" (.call 246 [(.lit (.str "character")), (.lc 8 (.call 455 [(.var 0)]) (.bi .range (.var 2)) none)])] [],
  .ite (.cmp .Eq (.bin .Mod (.call 441 [(.var 0)]) (.lit (.int 4))) (.lit (.int 3))) [.ensA 4, .setAI 4 "unit" (.call 246 [(.lit (.str "character")), (.list [(.lit (.str "m"))])])] [],
  .frz 4,
  .ret (.var 4)]
theorem is_law_vector {σ : Sig} (hK : KK σ) : IsDef σ 503 G0 ["row"] 8 ir_law_vector :=
  isd hK (at_503 _) ["v"] (by kernel_rfl) (by kernel_rfl) (by kernel_rfl)
end Mine

end
section
open PySem PySem.W PySem.Calls PyProof.Rows PySem.Spec
set_option Elab.async false
set_option maxRecDepth 100000
set_option maxHeartbeats 8000000
set_option linter.unusedVariables false
namespace Mine
theorem kok_of (P : Params) : KOK (frag P) := by
  refine ⟨?_, ?_, ?_, ?_, ?_, ?_⟩
  · simp only [List.forall_mem_cons]
    refine ⟨⟨⟨?_, ?_⟩, ⟨?_, ?_⟩, ⟨?_, ?_⟩, fun _ h => nomatch h⟩, ⟨⟨?_, ?_⟩, ⟨?_, ?_⟩, ⟨?_, ?_⟩, fun _ h => nomatch h⟩, ⟨⟨?_, ?_⟩, ⟨?_, ?_⟩, ⟨?_, ?_⟩, fun _ h => nomatch h⟩, fun _ h => nomatch h⟩ <;> kernel_rfl
  · simp only [List.forall_mem_cons]
    refine ⟨?_, ?_, ?_, fun _ h => nomatch h⟩ <;> kernel_rfl
  · kernel_rfl
  · simp only [List.forall_mem_cons]
    refine ⟨⟨?_, ?_, ?_, ?_⟩, ⟨?_, ?_, ?_, ?_⟩, fun _ h => nomatch h⟩ <;> kernel_rfl
  · kernel_rfl
  · kernel_rfl
theorem kok {σ : Sig} (hK : KK σ) : KOK σ.K := by rw [hK]; exact kok_of _
end Mine

end
section
open PySem PySem.W PySem.Calls PyProof.Rows PySem.Spec
set_option Elab.async false
set_option maxRecDepth 100000
set_option linter.unusedVariables false
namespace Mine
/-! an own object's dict -/
theorem put_same (name : PySem.Str) (h : Int) (t : Tok) (v : Value) : ∀ es : List DictEntry, ∃ e, (putL name h (.str name t) v es).find? (·.key.isStr name) = some e ∧ e.val = v
  | [] => ⟨⟨h, .str name t, v⟩, by simp [putL, Value.isStr], rfl⟩
  | e :: r => by
    unfold putL
    cases hk : e.key.isStr name with
    | true => exact ⟨⟨e.hash, e.key, v⟩, by simp [hk], rfl⟩
    | false =>
      obtain ⟨e', h1, h2⟩ := put_same name h t v r
      exact ⟨e', by simp [hk, h1], h2⟩
theorem isStr_eq {v : Value} {x y : PySem.Str} (h : v.isStr x = true) (h' : v.isStr y = true) : x = y := by
  cases v <;> simp [Value.isStr] at h h'
  rw [← h, ← h']
theorem put_other {name y : PySem.Str} (hn : y ≠ name) (h : Int) (t : Tok) (v : Value) : ∀ es : List DictEntry, (putL name h (.str name t) v es).find? (·.key.isStr y) = es.find? (·.key.isStr y)
  | [] => by simp [putL, Value.isStr]; exact fun e => hn e.symm
  | e :: r => by
    unfold putL
    cases hk : e.key.isStr name with
    | true =>
      have : e.key.isStr y = false := by
        cases hy : e.key.isStr y with
        | false => rfl
        | true => exact absurd (isStr_eq hy hk) hn
      simp [this]
    | false => simp only [Bool.false_eq_true, if_false, List.find?_cons, put_other hn h t v r]
theorem put_ref (name : PySem.Str) (h : Int) (t : Tok) (v : Value) : ∀ es : List DictEntry, (putL name h (.str name t) v es).any (·.refKey) = es.any (·.refKey)
  | [] => rfl
  | e :: r => by
    unfold putL
    cases hk : e.key.isStr name with
    | true => rfl
    | false => simp only [Bool.false_eq_true, if_false, List.any_cons, put_ref name h t v r]
theorem put_len (name : PySem.Str) (h : Int) (k v : Value) : ∀ es : List DictEntry, (putL name h k v es).length ≤ es.length + 1
  | [] => by simp [putL]
  | e :: r => by
    unfold putL
    have := put_len name h k v r
    split <;> simp <;> omega
theorem put_len' {name : PySem.Str} {h : Int} {k v : Value} : ∀ {es : List DictEntry} {w : Value}, getL name es = some (some w) → (putL name h k v es).length = es.length
  | [], w, hg => by simp [getL] at hg
  | e :: r, w, hg => by
    unfold putL
    cases hk : e.key.isStr name with
    | true => simp
    | false =>
      have : getL name r = some (some w) := by
        unfold getL at hg ⊢
        rw [List.find?_cons, hk] at hg
        simp only at hg
        split at hg
        · rename_i e' he; exact hg
        · split at hg <;> cases hg
      simp [put_len' this]
theorem get_same {name : PySem.Str} {h : Int} {t : Tok} {v : Value} {es : List DictEntry} : getL name (putL name h (.str name t) v es) = some (some v) := by
  obtain ⟨e, h1, h2⟩ := put_same name h t v es
  unfold getL
  rw [h1, ← h2]
theorem get_other {name y : PySem.Str} (hn : y ≠ name) {h : Int} {t : Tok} {v : Value} {es : List DictEntry} : getL y (putL name h (.str name t) v es) = getL y es := by
  unfold getL
  rw [put_other hn, put_ref]
/-- the dict of a new own object -/
noncomputable def DA (kvs : List (PySem.Str × Value)) : Obj → Prop := fun o => ∃ es n, o = dictOf es n ∧ es.length ≤ kvs.length ∧ ∀ y, getL y es = some (kvs.lookup y)
theorem da_nil : DA [] emptyDict := ⟨[], 0, rfl, Nat.le_refl _, fun _ => rfl⟩
structure SetC (K : Frag) (C : Addr) (f : PySem.Str) : Prop where
  s : findIn K (.ref C) "__setattr__" = some (some (.builtin "object.__setattr__"))
  p : plainOver K C = true
  t : takerIn K C f = some none
  h : hasDictIn K C = true
section
variable {σ : Sig} {A : Around} {E : Value → Shared → Prop} {L : Addr} {m : Know} {Fs : List (Addr × Know)} {M M' : Mut} {X : Led} {s : Shared} {x dx C : Addr} {PI P P' : Obj → Prop} {f : PySem.Str} {v : Value} {Q : Unit → Shared → Prop}
theorem st_set (S : St σ L m Fs M X s) (hc : SetC σ.K C f) (hx : (x, PI) ∈ M) (hI : ∀ o, PI o → o.cls = .ref C ∧ o.dict = some dx ∧ notCls o = true) (U : Ch dx P P' M M')
    (hP : ∀ o, P o → ∃ es n w, o = dictOf es n ∧ es.length ≤ 500 ∧ getL f es = some w ∧ ∀ h t, P' (dictOf (putL f h (.str f t) v es) (putN f es n)))
    (h : ∀ s', St σ L m Fs M' X s' → Q () s') : wpAny σ.M A (setAttr (.ref x) f v) Q E s := by
  obtain ⟨ox, hox, hpx⟩ := S.own _ hx
  obtain ⟨hcl, hdx, hnc⟩ := hI _ hpx
  obtain ⟨od, hod, hpd⟩ := S.own _ U.mem
  obtain ⟨es, n, w, rfl, hz, hg, hP'⟩ := hP _ hpd
  have I : InstAt s.heap x ox C (some (dictOf es n)) := ⟨hox, hcl, hnc, by rw [hdx]; exact hod⟩
  have XX := S.ok.In.keeps S.W
  refine set_plain XX I hc.s ?_
  refine osa_open (s := { s with toks := s.toks + 1 }) XX I hc.p hc.t fun b => ?_
  obtain ⟨cd, hcd, hd'⟩ := any_some hc.h
  obtain ⟨oc, odi, oda, osl⟩ := ox
  dsimp only at hcl hdx
  subst hcl hdx
  refine wpAny_bind (wpAny_pure (wpAny_bind (wpAny_bind (wpAny_loadPart hox (wpAny_bind (Looks.here (s := { s with toks := s.toks + 1 }) (looks_clsIn XX hcd) ?_))))))
  rw [hd']
  refine wpAny_pure (a := some dx) (wpAny_bind (wpAny_pure (wpAny_bind ?_)))
  unfold nsSet
  refine wpAny_bind (wpAny_bind (wpAny_askSetting (wpAny_pure (wpAny_bind (wpAny_mkText (wpAny_bind (wpAny_loadPart hod ?_)))))))
  dsimp only
  have c : (!es.toArray.any (·.key.isStr f) && es.toArray.any (·.refKey)) = false := by
    rw [← Array.any_toList, ← Array.any_toList]
    unfold getL at hg
    split at hg
    · rename_i en he
      rw [List.any_eq_true.mpr ⟨en, List.mem_of_find?_eq_some he, List.find?_some he⟩]; rfl
    · split at hg
      · cases hg
      · rename_i z; rw [Bool.not_eq_true] at z; rw [z, Bool.and_false]
  rw [aRefKeyMayBeTheName_at, c]
  refine wpAny_updatePart hod ?_
  have hg' : (s.heap.update dx (Obj.putName f (PyData.keyHash σ.w.params f) (.str f (s.toks + 1)) v)).get? dx = some (dictOf (putL f (PyData.keyHash σ.w.params f) (.str f (s.toks + 1)) v es) (putN f es n)) := by
    rw [← putName_dict]
    exact Heap.get?_update_self _ hod (by rw [putName_dict]; rfl)
  have S' : St σ L m Fs M' X { s with heap := s.heap.update dx (Obj.putName f (PyData.keyHash σ.w.params f) (.str f (s.toks + 1)) v), toks := s.toks + 2 } :=
    S.setMut U (fun b o hb e => Heap.get?_update_of_ne _ (fun q => hb q.symm) e) ⟨_, hg', hP' _ _⟩
  refine wpAny_bind (wpAny_lookBehind hg' (pastItsLine_dict (by rw [List.size_toArray, sizeLine_eq]; have := put_len f (PyData.keyHash σ.w.params f) (.str f (s.toks + 1)) v es; omega)) ?_)
  exact wpAny_pure (h _ S')
end
end Mine

end
section
open PySem PySem.W PySem.Calls PyProof.Rows PySem.Spec
set_option Elab.async false
set_option maxRecDepth 100000
set_option linter.unusedVariables false
namespace Mine
inductive IA where | nm (y : PySem.Str) | str (x : PySem.Str) | none | bool (b : Bool)
noncomputable def iaC : Const → Option IA
  | .str x => some (.str x)
  | .none => some .none
  | .bool b => some (.bool b)
  | _ => none
noncomputable def iaV (v : Vw) : Option IA := match v with
  | .name y _ => some (.nm y)
  | .con c _ _ => iaC c
  | _ => none
noncomputable def iaOf (e : Expr) : Option IA := iaV (vw e)
noncomputable def selfV (v : Vw) : Option PySem.Str := match v with
  | .att a f _ => (asName a).bind fun s => if s == "self" then some f else none
  | _ => none
noncomputable def asSelf (st : Stmt) : Option (PySem.Str × Expr) := match st with
  | .Assign ts e _ => (one? ts).bind fun t => (selfV (vw t)).map fun f => (f, e)
  | _ => none
noncomputable def initOf : List Stmt → Option (List (PySem.Str × IA))
  | [] => some []
  | st :: r => (asSelf st).bind fun p => (iaOf p.2).bind fun a => (initOf r).map fun l => (p.1, a) :: l
theorem selfV_eq {t : Expr} {f : PySem.Str} : selfV (vw t) = some f → ∃ p1 p2, t = .Attribute (.Name "self" p1) f p2 := by
  refine vwE (P := fun t v => selfV v = some f → ∃ p1 p2, t = .Attribute (.Name "self" p1) f p2) (fun v h => ?_) t
  cases v with
  | att a g p =>
    obtain ⟨x, hx, h⟩ := Option.bind_eq_some_iff.mp h
    obtain ⟨hc, h⟩ := ifN h
    obtain ⟨p1, ea⟩ := asName_eq hx
    cases Option.some.inj h
    rw [ea, beq_iff_eq.mp hc]; exact ⟨p1, p, rfl⟩
  | _ => exact nS h
theorem asSelf_eq {st : Stmt} {p : PySem.Str × Expr} (h : asSelf st = some p) : ∃ p1 p2 p3, st = .Assign [.Attribute (.Name "self" p1) p.1 p2] p.2 p3 := by
  cases st with
  | Assign ts e p3 =>
    obtain ⟨t, ht, h⟩ := Option.bind_eq_some_iff.mp h
    obtain ⟨f, hf, h⟩ := Option.map_eq_some_iff.mp h
    obtain ⟨p1, p2, ea⟩ := selfV_eq hf
    cases h; rw [one_eq ht, ea]; exact ⟨p1, p2, p3, rfl⟩
  | _ => exact nS h
theorem initOf_cons {st : Stmt} {body : List Stmt} {asg : List (PySem.Str × IA)} (h : initOf (st :: body) = some asg) : ∃ f e a l p1 p2 p3, st = .Assign [.Attribute (.Name "self" p1) f p2] e p3 ∧ iaOf e = some a ∧ initOf body = some l ∧ asg = (f, a) :: l := by
  obtain ⟨p, hp, h⟩ := Option.bind_eq_some_iff.mp h
  obtain ⟨a, ha, h⟩ := Option.bind_eq_some_iff.mp h
  obtain ⟨l, hl, h⟩ := Option.map_eq_some_iff.mp h
  obtain ⟨p1, p2, p3, e⟩ := asSelf_eq hp
  exact ⟨p.1, p.2, a, l, p1, p2, p3, e, ha, hl, h.symm⟩
noncomputable def IAV (binds : List (PySem.Str × Value)) : IA → Value → Prop
  | .nm y, v => binds.lookup y = some v
  | .str x, v => ∃ t, v = .str x t
  | .none, v => v = .none
  | .bool b, v => v = .bool b
noncomputable def Acc (binds : List (PySem.Str × Value)) : List (PySem.Str × IA) → List (PySem.Str × Value) → List (PySem.Str × Value) → Prop
  | [], k, k' => k' = k
  | p :: r, k, k' => ∃ v, IAV binds p.2 v ∧ Acc binds r ((p.1, v) :: k) k'
section
variable {σ : Sig} {A : Around} {E : Value → Shared → Prop} {L : Addr} {m : Know} {Fs : List (Addr × Know)} {M : Mut} {X : Led} {s : Shared} {x dx C : Addr} {PI : Obj → Prop} {env : Env} {ns : List (PySem.Str × NameKind)} {cs : List (PySem.Str × Addr)} {binds : List (PySem.Str × Value)}
noncomputable def iaName : IA → List PySem.Str
  | .nm y => [y] | _ => []
theorem ia_eval {e : Expr} {a : IA} {Q : Value → Shared → Prop} (he : iaOf e = some a) (V : EnvIs env L ns cs) (S : St σ L m Fs M X s) (hn : ∀ y ∈ iaName a, (y, NameKind.local) ∈ ns ∧ ∃ v, binds.lookup y = some v ∧ (y, some (some v)) ∈ m)
    (h : ∀ v s', IAV binds a v → St σ L m Fs M X s' → Q v s') : wpAny σ.M A (eval e env) Q E s := by
  revert he
  refine vwE (P := fun e v => iaV v = some a → wpAny σ.M A (eval e env) Q E s) (fun v he => ?_) e
  cases v with
  | name y p =>
    cases he
    obtain ⟨h1, v, h2, h3⟩ := hn _ (.head _)
    exact r_local S V h1 h3 (h v s h2 S)
  | con c j p => cases c with
    | str x => cases he; exact r_str S fun t s' S' => h _ _ ⟨t, rfl⟩ S'
    | none => cases he; exact Constant_none (h _ _ rfl S)
    | bool b => cases he; exact Constant_bool (h _ _ rfl S)
    | _ => exact nS he
  | _ => exact nS he
theorem i_walk (V : EnvIs env L ns cs) (hself : (Str.ofString "self", NameKind.local) ∈ ns ∧ (Str.ofString "self", some (some (Value.ref x))) ∈ m) (hI : ∀ o, PI o → o.cls = .ref C ∧ o.dict = some dx ∧ notCls o = true) {Q : Flow → Shared → Prop} :
    ∀ (body : List Stmt) (asg : List (PySem.Str × IA)) (kvs : List (PySem.Str × Value)) (s : Shared), initOf body = some asg → (∀ p ∈ asg, SetC σ.K C p.1) → (∀ p ∈ asg, ∀ y ∈ iaName p.2, (y, NameKind.local) ∈ ns ∧ ∃ v, binds.lookup y = some v ∧ (y, some (some v)) ∈ m) → kvs.length + asg.length ≤ 400 →
      St σ L m Fs ((x, PI) :: (dx, DA kvs) :: M) X s → (∀ kvs' s', Acc binds asg kvs kvs' → St σ L m Fs ((x, PI) :: (dx, DA kvs') :: M) X s' → Q .next s') → wpAny σ.M A (execs body env) Q E s := by
  intro body
  induction body with
  | nil => intro asg kvs s h0 _ _ _ S H; cases h0; exact x_nil (H _ _ rfl S)
  | cons st body ih =>
    intro asg kvs s h0 hc hn hl S H
    obtain ⟨f, e, a, l, p1, p2, p3, rfl, ha, hl2, rfl⟩ := initOf_cons h0
    clear h0
    refine wpAny_execs_cons (plainObj_wpAny_Assign_Attribute (ia_eval ha V S (hn _ (.head _)) fun v s1 hv S1 => ?_) swaps_attr)
    refine r_local S1 V hself.1 hself.2 ?_
    rw [List.length_cons] at hl
    refine st_set S1 (hc _ (.head _)) (.head _) hI (P := DA kvs) (P' := DA ((f, v) :: kvs)) (.tail .head) (fun o ho => ?_) fun s2 S2 => ?_
    · obtain ⟨es, n, rfl, h1, h2⟩ := ho
      refine ⟨es, n, _, rfl, by omega, h2 f, fun h t => ⟨_, _, rfl, Nat.le_trans (put_len f h (.str f t) v es) (Nat.succ_le_succ h1), fun y => ?_⟩⟩
      by_cases hy : y = f
      · rw [hy, get_same, List.lookup_cons, beq_self_eq_true]
      · rw [get_other hy, h2, List.lookup_cons, beq_false_of_ne hy]
    · exact ih l ((f, v) :: kvs) s2 hl2 (fun p hp => hc p (.tail _ hp)) (fun p hp => hn p (.tail _ hp)) (by rw [List.length_cons, Nat.add_right_comm]; exact hl) S2 fun kvs' s' hA S' => H kvs' s' ⟨v, hv, hA⟩ S'
theorem Rm.creation {k : Nat} {as : List Addr} {rest : List Value} {kw : List (PySem.Str × Value)} (R : Rm A (k + 1) as) : Rm (A.under (.builtin "type.__call__" ⟨.ref C :: rest, kw⟩)) k as := by
  have e1 : (Code.builtin "type.__call__" ⟨.ref C :: rest, kw⟩).weight = 1 := by kernel_rfl
  have e2 : (Code.builtin "type.__call__" ⟨.ref C :: rest, kw⟩).cUnits = 1 := by kernel_rfl
  have e3 : (Code.builtin "type.__call__" ⟨.ref C :: rest, kw⟩).envs = [] := by rfl
  refine ⟨R.hd, ?_, ?_, ?_⟩
  · have := R.dp; show A.depth + _ + k < _; rw [e1]; omega
  · have := R.un; show A.units + _ + 16 * k + 64 < _; rw [e2]; omega
  · obtain ⟨e, a, b⟩ := R.fr
    have e4 : (A.under (.builtin "type.__call__" ⟨.ref C :: rest, kw⟩)).frames = pushEnvs (Code.builtin "type.__call__" ⟨.ref C :: rest, kw⟩).envs A.frames := rfl
    exact ⟨e, by rw [e4, e3]; exact a, b⟩
inductive InitEx (σ : Sig) (fI : Addr) (params : List PySem.Str) (dv : List Value) (asg : List (PySem.Str × IA)) : Prop
  | mk (name qual : PySem.Str) (pms : Arguments) (body : List Stmt) (sc : Scope) (dV kV doc pm cdv ct oc : Value) (an od : Option Addr) (osl : Array (Option Value))
    (h1 : σ.K.lookup fI = some ⟨oc, od, .func (fnOf name qual pms body sc dV kV doc pm an cdv ct), osl⟩) (h2 : codeIn σ.K cdv qual = true) (h3 : defOk params sc = true) (h4 : (sc.names.all fun p => p.2 != .cell) = true) (h5 : initOf body = some asg) (h6 : params.head? = some (Str.ofString "self"))
    (h7 : (asg.all fun p => (iaName p.2).all fun y => params.contains y) = true)
    (h8 : ∀ s vals, σ.K.In s.heap → vals.length + dv.length = params.length → BindsTo s (fnOf name qual pms body sc dV kV doc pm an cdv ct) ⟨vals, []⟩ (params.zip (vals ++ dv))) : InitEx σ fI params dv asg
structure IsInit (σ : Sig) (C fI : Addr) (params : List PySem.Str) (dv : List Value) (asg : List (PySem.Str × IA)) : Prop where
  fn : findIn σ.K (.ref C) "__init__" = some (some (.ref fI))
  ty : typeIn σ.K (.ref fI) = some (.type "function")
  set : ∀ p ∈ asg, SetC σ.K C p.1
  ex : InitEx σ fI params dv asg
theorem cells_none {n : Nat} : ∀ {ns : List (PySem.Str × NameKind)} {acc : List (PySem.Str × Addr)}, (ns.all fun p => p.2 != .cell) = true → cellsFrom n ns acc = acc
  | [], acc, _ => rfl
  | (z, k) :: r, acc, h => by
    rw [List.all_cons, Bool.and_eq_true] at h
    unfold cellsFrom
    rw [if_neg (by simpa using h.1), cells_none h.2]
theorem init_run {fI : Addr} {params : List PySem.Str} {dv : List Value} {asg : List (PySem.Str × IA)} {args : List Value} {R : Result → Shared → Prop} {k : Nat} (I : IsInit σ C fI params dv asg) (hl : args.length + 1 + dv.length = params.length) (hz : asg.length ≤ 100)
    (hI : ∀ o, PI o → o.cls = .ref C ∧ o.dict = some dx ∧ notCls o = true) (S : St σ L m Fs ((x, PI) :: (dx, DA []) :: M) X s) (hR : Rm A (k + 1) (L :: Fs.map (·.1)))
    (H : ∀ kvs s', Acc (params.zip (.ref x :: args ++ dv)) asg [] kvs → St σ L m Fs ((x, PI) :: (dx, DA kvs) :: M) X s' → R (.ok (.ret .none)) s') : codeAny σ.M A (.call (.ref fI) ⟨.ref x :: args, []⟩) R s := by
  obtain ⟨name, qual, pms, body, sc, dV, kV, doc, pm, cdv, ct, oc, an, od, osl, h1, h2, h3, h4, h5, h6, h7, h8⟩ := I.ex
  have D := defOk_says h3
  have hvl : (.ref x :: args ++ dv).length = params.length := by simp; omega
  have hz1 : (params.zip (.ref x :: args ++ dv)).map (·.1) = params := zip_fst hvl.symm
  have hpn : params.Nodup := by
    rw [← D.pre]; exact (List.Sublist.map _ (List.take_sublist _ _)).nodup D.nd
  refine c_callC D S hR h1 h2 (h8 s (.ref x :: args) S.live (by simpa using hl)) hz1 fun env L' cs s' V hfr hk hcs hcn hap hcM S' hR' => ?_
  have hc0 : cs = [] := by rw [hcs]; exact cells_none h4
  subst hc0
  have S2 : St σ L' (knowL sc.names (params.zip (.ref x :: args ++ dv))) ((L, m) :: Fs) ((x, PI) :: (dx, DA []) :: M) X s' := S'
  have hloc : ∀ y ∈ params, (y, NameKind.local) ∈ sc.names ∧ ∃ v, (params.zip (.ref x :: args ++ dv)).lookup y = some v ∧ (y, some (some v)) ∈ knowL sc.names (params.zip (.ref x :: args ++ dv)) := by
    intro y hy
    rw [← D.pre] at hy
    obtain ⟨⟨y', kd⟩, hp, e⟩ := List.mem_map.mp hy
    have e : y' = y := e
    subst e
    have hm := List.mem_of_mem_take hp
    have hkd : kd = .local := by
      rcases D.pk _ hp with e | e
      · exact e
      · exfalso
        have := List.all_eq_true.mp h4 _ hm
        simp only at e
        subst e
        simp at this
    subst hkd
    have hin : y' ∈ (params.zip (.ref x :: args ++ dv)).map (·.1) := by
      rw [hz1, ← D.pre]; exact hy
    obtain ⟨⟨_, v⟩, hb, rfl⟩ := List.mem_map.mp hin
    have hlk := lookup_nodup' (by rw [hz1]; exact hpn) hb
    refine ⟨hm, v, hlk, ?_⟩
    have := knowL_has (binds := params.zip (.ref x :: args ++ dv)) hm
    rw [hlk] at this
    exact this
  have hps : Str.ofString "self" ∈ params := by
    cases params with
    | nil => cases h6
    | cons p r => simp at h6; rw [h6]; exact .head _
  have hsl : (params.zip (.ref x :: args ++ dv)).lookup (Str.ofString "self") = some (.ref x) := by
    cases params with
    | nil => cases h6
    | cons p r => simp at h6; simp [h6]
  obtain ⟨q1, v, q2, q3⟩ := hloc _ hps
  have : v = .ref x := by rw [q2] at hsl; exact Option.some.inj hsl
  subst this
  refine i_walk (binds := params.zip (.ref x :: args ++ dv)) V ⟨q1, q3⟩ hI body asg [] s' h5 I.set (fun p hp y hy => hloc y ?_) (by simp; omega) S2 fun kvs s3 hA S3 => ?_
  · have := List.all_eq_true.mp (List.all_eq_true.mp h7 p hp) y hy
    simpa using this
  · exact H kvs s3 hA S3.pop
end
end Mine

end
section
open PySem PySem.W PySem.Calls PyProof.Rows PySem.Spec
set_option Elab.async false
set_option maxRecDepth 100000
set_option maxHeartbeats 8000000
set_option linter.unusedVariables false
namespace Mine
section
variable {σ : Sig} {A : Around} {E : Value → Shared → Prop} {L : Addr} {m : Know} {Fs : List (Addr × Know)} {M : Mut} {X : Led} {s : Shared} {x dx C fI : Addr} {params : List PySem.Str} {dv : List Value} {asg : List (PySem.Str × IA)} {args : List Value} {k : Nat} {Q : Value → Shared → Prop}
theorem r_make (I : IsInit σ C fI params dv asg) (hm : makesIn σ.K C = true) (hl : args.length + 1 + dv.length = params.length) (hz : asg.length ≤ 100) (S : St σ L m Fs M X s) (hR : Rm A (k + 2) (L :: Fs.map (·.1)))
    (H : ∀ x dx kvs s', Acc (params.zip (.ref x :: args ++ dv)) asg [] kvs → St σ L m Fs ((x, InstP C dx) :: (dx, DA kvs) :: M) X s' → Q (.ref x) s') : wpAny σ.M A (call (.ref C) args) Q E s := by
  refine wpAny_call ?_
  have XX := S.ok.In.keeps S.W
  have S1 := S.pushM (P := DA []) da_nil
  have S2 := S1.pushM (P := InstP C s.heap.objs.size) (o := instObj C s.heap.objs.size) rfl
  simp only [Heap.size_push] at S2
  obtain ⟨hh, g, d, t, os⟩ := s
  refine make_core (makes_of XX hm) (looks_findIn XX I.fn) (fun self => bind_fn XX self I.ty) (.inl rfl) ?_
  refine init_run I hl hz (fun o ho => by cases ho; exact ⟨rfl, rfl, rfl⟩) S2 hR.creation fun kvs s' hA S' => ?_
  exact ⟨rfl, H _ _ kvs s' hA S'⟩
theorem da_at {kvs : List (PySem.Str × Value)} {es : List DictEntry} (h : ∀ y, getL y es = some (kvs.lookup y)) {f : PySem.Str} {v : Value} (hf : kvs.lookup f = some v) (hv : handedIn v = true) : At es f v := ⟨by rw [h, hf], hv⟩
end
noncomputable def asgV : List (PySem.Str × IA) := [("kind", .nm "kind"), ("items", .nm "items"), ("attrs", .nm "attrs"), ("shared", .bool false), ("loose", .bool false)]
noncomputable def asgN : List (PySem.Str × IA) := [("kind", .str "NULL"), ("attrs", .none)]
noncomputable def asgM : List (PySem.Str × IA) := [("kind", .str "missing"), ("attrs", .none)]
theorem setC_V (P : Params) : ∀ p ∈ asgV, SetC (frag P) 246 p.1 := by
  unfold asgV
  simp only [List.forall_mem_cons]
  refine ⟨⟨?_, ?_, ?_, ?_⟩, ⟨?_, ?_, ?_, ?_⟩, ⟨?_, ?_, ?_, ?_⟩, ⟨?_, ?_, ?_, ?_⟩, ⟨?_, ?_, ?_, ?_⟩, fun _ h => nomatch h⟩ <;> kernel_rfl
theorem setC_N (P : Params) : ∀ p ∈ asgN, SetC (frag P) 196 p.1 := by
  unfold asgN
  simp only [List.forall_mem_cons]
  refine ⟨⟨?_, ?_, ?_, ?_⟩, ⟨?_, ?_, ?_, ?_⟩, fun _ h => nomatch h⟩ <;> kernel_rfl
theorem setC_M (P : Params) : ∀ p ∈ asgM, SetC (frag P) 217 p.1 := by
  unfold asgM
  simp only [List.forall_mem_cons]
  refine ⟨⟨?_, ?_, ?_, ?_⟩, ⟨?_, ?_, ?_, ?_⟩, fun _ h => nomatch h⟩ <;> kernel_rfl
theorem makes_all (P : Params) : makesIn (frag P) 246 = true ∧ makesIn (frag P) 196 = true ∧ makesIn (frag P) 217 = true := by
  refine ⟨?_, ?_, ?_⟩ <;> kernel_rfl
theorem init_V {σ : Sig} (hK : KK σ) : IsInit σ 246 236 ["self", "kind", "items", "attrs"] [.none] asgV :=
  ⟨by rw [hK]; kernel_rfl, by rw [hK]; kernel_rfl, by rw [hK]; exact setC_V _, _, _, _, _, _, _, _, _, _, _, _, _, _, _, _, by rw [hK]; exact at_236 _, by rw [hK]; kernel_rfl, by kernel_rfl, by kernel_rfl, by kernel_rfl, by kernel_rfl, by kernel_rfl,
    fun s vals hk hl => len3 (Nat.succ.inj hl) fun v0 v1 v2 => binds_K hk rfl (by rw [hK]; exact at_229 _) rfl rfl rfl⟩
theorem init_N {σ : Sig} (hK : KK σ) : IsInit σ 196 193 ["self"] [] asgN :=
  ⟨by rw [hK]; kernel_rfl, by rw [hK]; kernel_rfl, by rw [hK]; exact setC_N _, _, _, _, _, _, _, _, _, _, _, _, _, _, _, _, by rw [hK]; exact at_193 _, by rw [hK]; kernel_rfl, by kernel_rfl, by kernel_rfl, by kernel_rfl, by kernel_rfl, by kernel_rfl,
    fun s vals hk hl => len1 hl fun v0 => BindsTo.of_eq rfl⟩
theorem init_M {σ : Sig} (hK : KK σ) : IsInit σ 217 214 ["self"] [] asgM :=
  ⟨by rw [hK]; kernel_rfl, by rw [hK]; kernel_rfl, by rw [hK]; exact setC_M _, _, _, _, _, _, _, _, _, _, _, _, _, _, _, _, by rw [hK]; exact at_214 _, by rw [hK]; kernel_rfl, by kernel_rfl, by kernel_rfl, by kernel_rfl, by kernel_rfl, by kernel_rfl,
    fun s vals hk hl => len1 hl fun v0 => BindsTo.of_eq rfl⟩
end Mine

end
section
open PySem PySem.W PySem.Calls PyProof.Rows PySem.Spec
set_option Elab.async false
set_option maxRecDepth 100000
set_option linter.unusedVariables false
namespace Mine
section
variable {σ : Sig} {A : Around} {E : Value → Shared → Prop} {L : Addr} {m : Know} {Fs : List (Addr × Know)} {M M' : Mut} {X : Led} {s : Shared} {k : Nat}
theorem handed_str {x : PySem.Str} {t : Tok} : handedIn (.str x t) = true := rfl
theorem p_mkV (hK : KK σ) {v w : Value} {Q : Value → Shared → Prop} (S : St σ L m Fs M X s) (hR : Rm A 3 (L :: Fs.map (·.1))) (hv : handedIn v = true) (hw : handedIn w = true)
    (H : ∀ a d s', St σ L m Fs ((a, InstP 246 d) :: (d, VecP v w .none) :: M) X s' → Q (.ref a) s') : wpAny σ.M A (call (.ref 246) [v, w]) Q E s := by
  refine r_make (k := 1) (init_V hK) (by rw [hK]; exact (makes_all _).1) rfl (by decide) S hR fun x dx kvs s' hA S' => ?_
  simp only [asgV, Acc, IAV] at hA
  obtain ⟨v1, h1, v2, h2, v3, h3, v4, rfl, v5, rfl, rfl⟩ := hA
  have e1 : v1 = v := Option.some.inj (h1.symm.trans (by kernel_rfl))
  have e2 : v2 = w := Option.some.inj (h2.symm.trans (by kernel_rfl))
  have e3 : v3 = .none := Option.some.inj (h3.symm.trans (by kernel_rfl))
  subst e1 e2 e3
  refine H _ _ _ (S'.weak (.tail .head) fun o ho => ?_)
  obtain ⟨es, n, rfl, hz, hg⟩ := ho
  exact ⟨es, n, rfl, hz, da_at hg rfl hv, da_at hg rfl hw, da_at hg rfl rfl⟩
theorem p_setA (hK : KK σ) {a d : Addr} {vk vi va w : Value} {Q : Unit → Shared → Prop} (S : St σ L m Fs M X s) (ha : (a, InstP 246 d) ∈ M) (U : Ch d (VecP vk vi va) (VecP vk vi w) M M') (hw : handedIn w = true)
    (H : ∀ s', St σ L m Fs M' X s' → Q () s') : wpAny σ.M A (setAttr (.ref a) (Str.ofString "attrs") w) Q E s := by
  refine st_set S (C := 246) (by rw [hK]; exact setC_V _ (Str.ofString "attrs", .nm "attrs") (.tail _ (.tail _ (.head _)))) ha (fun o ho => by cases ho; exact ⟨rfl, rfl, rfl⟩) U (fun o ho => ?_) H
  obtain ⟨es, n, rfl, hz, h1, h2, h3⟩ := ho
  refine ⟨es, n, _, rfl, by omega, h3.1, fun h t => ⟨_, _, rfl, by rw [put_len' h3.1]; exact hz, ⟨by rw [get_other (by decide)]; exact h1.1, h1.2⟩, ⟨by rw [get_other (by decide)]; exact h2.1, h2.2⟩, ⟨get_same, hw⟩⟩⟩
end
section
variable {σ : Sig} {k : Nat} {Q : PV → Prop} {R : PySem.Str → Prop}
theorem w_vec (hK : KK σ) {x : PySem.Str} {it : PV} (h : Q (.vec x it .none)) : Ct σ (k + 3) 246 [.str x, it] Q R := by
  intro r A E L m Fs M X s vs Q' S hr hR hvs HQ HX
  refine hvs.inv fun v vs' hv hvs => ?_
  refine hvs.inv fun w vs' hw hvs => ?_
  obtain rfl := hvs.inv0
  refine rep_str hv fun t => ?_
  refine p_mkV hK S (hR.low (by omega)) rfl (rep_handed hw) fun a d s' S' => ?_
  obtain ⟨o, ho, S2⟩ := S'.freeze
  obtain ⟨o2, ⟨es, n, rfl, hz, h1, h2, h3⟩, S3⟩ := S2.freeze
  cases ho
  refine HQ _ _ s' _ (fun p hp => .tail _ (.tail _ hp)) S3 ?_ h
  exact repVec (.tail _ (.head _)) (.head _) h1 h2 h3 (Rep.mono (fun p hp => .tail _ (.tail _ hp)) _ _ hw) rfl
theorem w_nul (hK : KK σ) (h : Q .null) : Ct σ (k + 3) 196 [] Q R := by
  intro r A E L m Fs M X s vs Q' S hr hR hvs HQ HX
  obtain rfl := hvs.inv0
  refine r_make (k := 1) (init_N hK) (by rw [hK]; exact (makes_all _).2.1) rfl (by decide) S (hR.low (by omega)) fun x dx kvs s' hA S' => ?_
  simp only [asgN, Acc, IAV] at hA
  obtain ⟨v1, ⟨t, rfl⟩, v2, rfl, rfl⟩ := hA
  obtain ⟨o, ho, S2⟩ := S'.freeze
  obtain ⟨o2, ⟨es, n, rfl, hz, hg⟩, S3⟩ := S2.freeze
  cases ho
  refine HQ _ _ s' _ (fun p hp => .tail _ (.tail _ hp)) S3 ?_ h
  exact ⟨x, dx, es, n, t, rfl, .tail _ (.head _), .head _, da_at hg rfl rfl, da_at hg rfl rfl⟩
theorem w_mis (hK : KK σ) (h : Q .missing) : Ct σ (k + 3) 217 [] Q R := by
  intro r A E L m Fs M X s vs Q' S hr hR hvs HQ HX
  obtain rfl := hvs.inv0
  refine r_make (k := 1) (init_M hK) (by rw [hK]; exact (makes_all _).2.2) rfl (by decide) S (hR.low (by omega)) fun x dx kvs s' hA S' => ?_
  simp only [asgM, Acc, IAV] at hA
  obtain ⟨v1, ⟨t, rfl⟩, v2, rfl, rfl⟩ := hA
  obtain ⟨o, ho, S2⟩ := S'.freeze
  obtain ⟨o2, ⟨es, n, rfl, hz, hg⟩, S3⟩ := S2.freeze
  cases ho
  refine HQ _ _ s' _ (fun p hp => .tail _ (.tail _ hp)) S3 ?_ h
  exact ⟨x, dx, es, n, t, rfl, .tail _ (.head _), .head _, da_at hg rfl rfl, da_at hg rfl rfl⟩
end
end Mine

end
section
open PySem PySem.W PySem.Calls PyProof.Rows PySem.Spec
set_option Elab.async false
set_option maxRecDepth 100000
set_option linter.unusedVariables false
namespace Mine
noncomputable def FlP (i : Nat) (v : Value) : Obj → Prop := fun o => ∃ vs, o.data = .fields vs ∧ vs[i]? = some v
section
variable {σ : Sig} {A : Around} {E : Value → Shared → Prop} {L : Addr} {m : Know} {Fs : List (Addr × Know)} {M M' : Mut} {X : Led} {s : Shared} {a : Addr} {P P' : Obj → Prop} {i : Nat} {v : Value}
theorem s_field {Q : Value → Shared → Prop} (S : St σ L m Fs M X s) (ha : (a, P) ∈ M) (hP : ∀ o, P o → FlP i v o) (h : Q v s) : wpAny σ.M A (field (.ref a) i) Q E s := by
  obtain ⟨o, ho, hp⟩ := S.own _ ha
  obtain ⟨vs, h1, h2⟩ := hP o hp
  exact wpAny_field ho h1 h2 h
theorem s_setField {Q : Unit → Shared → Prop} (S : St σ L m Fs M X s) (U : Ch a P P' M M') (hP : ∀ o, P o → ∃ vs, o.data = .fields vs ∧ i < vs.size) (hP' : ∀ o vs, P o → o.data = .fields vs → P' { o with data := .fields (vs.setIfInBounds i v) })
    (h : ∀ s', St σ L m Fs M' X s' → Q () s') : wpAny σ.M A (setField (.ref a) i v) Q E s := by
  obtain ⟨o, ho, hp⟩ := S.own _ U.mem
  obtain ⟨vs, h1, h2⟩ := hP o hp
  refine wpAny_setField ho h1 h2 (h _ ?_)
  have hd := Obj.data_mapFields h1 (·.setIfInBounds i v)
  have hg := Heap.get?_update_self (Obj.mapFields (·.setIfInBounds i v)) ho (Obj.isFreed_of_fields hd)
  refine S.setMut U (fun b o hb e => Heap.get?_update_of_ne _ (fun q => hb q.symm) e) ⟨_, hg, ?_⟩
  have e : Obj.mapFields (·.setIfInBounds i v) o = { o with data := .fields (vs.setIfInBounds i v) } := by
    obtain ⟨c, d, dt, sl⟩ := o
    cases h1
    rfl
  rw [e]
  exact hP' o vs hp h1
theorem Ns.slots {h h' : Heap} {as : List Addr} {L : Addr} {f : PySem.Str → Option Value} (hs : Heap.SlotsOnly as h h') (hn : h.Ns L f) : h'.Ns L f := by
  obtain ⟨o, es, ep, ho, hd, r⟩ := hn
  obtain ⟨sl, hsl⟩ := hs.2.2 L o ho
  exact ⟨_, es, ep, hsl, hd, r⟩
theorem St.slots {as : List Addr} {h' : Heap} (S : St σ L m Fs M X s) (hs : Heap.SlotsOnly as s.heap h') (has : ∀ b ∈ as, b ∈ L :: Fs.map (·.1)) : St σ L m Fs M X { s with heap := h' } := by
  have hk : ∀ b o, b ∉ L :: Fs.map (·.1) → s.heap.get? b = some o → h'.get? b = some o := fun b o hb e => by rw [hs.2.1 b fun q => hb (has b q)]; exact e
  have hm : ∀ b ∈ L :: Fs.map (·.1), b ∈ L :: (Fs.map (·.1) ++ M.map (·.1)) := fun b hb => by
    rcases List.mem_cons.mp hb with rfl | hb
    · exact .head _
    · exact .tail _ (List.mem_append_left _ hb)
  have hnd := S.nd
  refine ⟨S.ok, S.gens, S.drawn, S.os, fun b o e => hk b o (fun q => ?_) (S.W b o e), ?_, fun p hp => ?_, fun p hp => ?_, fun p hp => hk _ _ (fun q => ?_) (S.fz p hp), S.nd, S.new⟩
  · rw [(S.new b (hm b q)).1] at e; cases e
  · obtain ⟨nd, f, hf, q⟩ := S.cur
    exact ⟨nd, f, Ns.slots hs hf, q⟩
  · obtain ⟨nd, f, hf, q⟩ := S.fs p hp
    exact ⟨nd, f, Ns.slots hs hf, q⟩
  · obtain ⟨o, h1, h2⟩ := S.own p hp
    refine ⟨o, hk _ _ (fun q => ?_) h1, h2⟩
    have hpm : p.1 ∈ M.map (·.1) := List.mem_map.mpr ⟨p, hp, rfl⟩
    simp only [List.nodup_cons, List.nodup_append, List.mem_append, not_or] at hnd
    rcases List.mem_cons.mp q with q | q
    · exact hnd.1.2 (q ▸ hpm)
    · exact hnd.2.2.2 _ q _ hpm rfl
  · exact (S.new _ (hm _ q)).2 p hp rfl
theorem NsK.fun {h : Heap} {l : Know} (hn : NsK h L l) : ∃ o, h.get? L = some o ∧ ∀ vs, o.data ≠ .fields vs := by
  obtain ⟨_, f, ⟨o, es, ep, ho, hd, r⟩, _⟩ := hn
  exact ⟨o, ho, fun vs e => by rw [hd] at e; cases e⟩
theorem St.frames {envs : List Env} (S : St σ L m Fs M X s) (h : ∀ env ∈ envs, env.scope.kind = .function ∧ ∃ Lf, env.frame = some Lf ∧ Lf ∈ L :: Fs.map (·.1)) : s.heap.FunFrames σ.W₀ envs := by
  induction envs with
  | nil => trivial
  | cons env r ih =>
    obtain ⟨h1, Lf, h2, h3⟩ := h env (.head _)
    refine ⟨by rw [h1]; decide, ?_, ih fun e he => h e (.tail _ he)⟩
    rcases List.mem_cons.mp h3 with rfl | h4
    · obtain ⟨o, ho, hd⟩ := NsK.fun S.cur
      exact ⟨_, o, h2, (S.new _ (.head _)).1, ho, hd⟩
    · obtain ⟨p, hp, rfl⟩ := List.mem_map.mp h4
      obtain ⟨o, ho, hd⟩ := NsK.fun (S.fs p hp)
      exact ⟨_, o, h2, (S.new _ (.tail _ (List.mem_append_left _ h4))).1, ho, hd⟩
/-- the making of a traceback entry, and what follows -/
theorem s_entry {env : Env} {e d : Addr} {T head : Value} {hadNext : Bool} {envs : List Env} {Q : Unit → Shared → Prop} (S : St σ L m Fs ((e, ExcP d T) :: M) X s) (hfr : A.frames = some (env :: envs)) (hfs : ∀ env' ∈ env :: envs, env'.scope.kind = .function ∧ ∃ Lf, env'.frame = some Lf ∧ Lf ∈ L :: Fs.map (·.1))
    (hf : env.frame = some L) (h : ∀ T' s', St σ L m Fs ((e, ExcP d (.ref T')) :: (T', TbP) :: M) X s' → Q () s') :
    wpAny σ.M A (do let a ← frameOf env; let pl ← entryPlaceOf L hadNext; let b ← EntryCells.newEntry head a .none (rawInt L) .none pl; setField (.ref e) 1 b) (fun _ s' => wpAny σ.M A (setFlight (.ref e) none) Q E s') E s := by
  refine wpAny_bind (wpAny_frameOf_fun hfr (S.frames hfs) hf fun h₁ hs₁ => ?_)
  have S1 := S.slots hs₁ fun b hb => by
    obtain ⟨env', he', q⟩ := List.mem_filterMap.mp hb
    obtain ⟨_, Lf, q2, q3⟩ := hfs env' he'
    rw [q2] at q; cases q; exact q3
  refine wpAny_bind (wpAny_entryPlaceOf fun pl hpl => ?_)
  unfold EntryCells.newEntry newFields
  refine wpAny_bind (wpAny_newObj_type ?_ (hpl.sizeOk5 _ _ _ _ _))
  have S2 := S1.pushM (P := fun o => ∃ vs, o.data = .fields vs ∧ 3 < vs.size) (o := { cls := .type "traceback", dict := none, data := .fields ([head, .ref L, .none, rawInt L, .none] ++ (if pl.isEmpty then List.replicate 6 Value.none else pl)).toArray }) ⟨_, rfl, by simp⟩
  generalize hT : ({ s with heap := h₁ } : Shared).heap.objs.size = T' at S2
  have S3 := S2.permM (List.Perm.swap _ _ _)
  refine s_setField S3 (P' := ExcP d (.ref T')) .head (fun o ho => ?_) (fun o vs ho hd => ?_) fun s3 S4 => ?_
  · obtain ⟨_, _, vs, h1, h2⟩ := ho
    exact ⟨vs, h1, (Array.getElem?_eq_some_iff.mp h2).1⟩
  · obtain ⟨h1, h2, vs', h3, h4⟩ := ho
    rw [hd] at h3; cases h3
    exact ⟨h1, h2, _, rfl, by simp [(Array.getElem?_eq_some_iff.mp h4).1]⟩
  · unfold setFlight
    refine wpAny_bind (s_field S4 (.head _) (v := .ref T') (fun o ho => by obtain ⟨_, _, vs, h1, h2⟩ := ho; exact ⟨vs, h1, h2⟩) ?_)
    rw [if_pos (show (Value.ref T' != Value.none) = true from by simp)]
    refine s_setField S4 (P' := TbP) (.tail .head) (fun o ho => ho) (fun o vs ho hd => ?_) fun s4 S5 => h _ _ S5
    obtain ⟨vs', h1, h2⟩ := ho
    rw [hd] at h1; cases h1
    exact ⟨_, rfl, by simp [h2]⟩
theorem rm_frames {env : Env} {as : List Addr} (hR : Rm A 0 as) (hfr : env.frame = some L) (hk : env.scope.kind = .function) : ∃ envs, (A.deeper env).frames = some (env :: envs) ∧ ∀ env' ∈ env :: envs, env'.scope.kind = .function ∧ ∃ Lf, env'.frame = some Lf ∧ Lf ∈ L :: as := by
  obtain ⟨envs, h1, h2⟩ := hR.fr
  refine ⟨envs, by show A.frames.map _ = _; rw [h1]; rfl, fun env' h => ?_⟩
  rcases List.mem_cons.mp h with rfl | h
  · exact ⟨hk, L, hfr, .head _⟩
  · obtain ⟨p, l, q, r⟩ := h2 env' h
    exact ⟨p, l, q, .tail _ r⟩
theorem p_leave {env : Env} {L₀ : Addr} {m₀ : Know} {v : Value} {msg : PySem.Str} {Q : Unit → Shared → Prop} (hr : Raised σ L m ((L₀, m₀) :: Fs) M X s v msg) (hfr : env.frame = some L) (hk : env.scope.kind = .function) (hR : Rm A 0 (L₀ :: Fs.map (·.1)))
    (H : ∀ s', Raised σ L₀ m₀ Fs M X s' v msg → Q () s') : wpAny σ.M (A.deeper env) (leaving env v) Q E s := by
  obtain ⟨e, d, rfl, h⟩ := hr
  obtain ⟨envs, f1, f2⟩ := rm_frames hR hfr hk
  have f2' : ∀ env' ∈ env :: envs, env'.scope.kind = .function ∧ ∃ Lf, env'.frame = some Lf ∧ Lf ∈ L :: ((L₀, m₀) :: Fs).map (·.1) := f2
  unfold leaving noteFrame
  simp only [hfr]
  rcases h with ⟨T, S⟩ | S
  · refine wpAny_bind (wpAny_bind (s_field S (.head _) (v := .ref T) (fun o ho => by obtain ⟨_, _, vs, h1, h2⟩ := ho; exact ⟨vs, h1, h2⟩) ?_))
    rw [if_pos (show (Value.ref T != Value.none) = true from by simp)]
    refine wpAny_bind (s_field S (.tail _ (.head _)) (v := .none) (fun o ho => by obtain ⟨vs, h1, h2⟩ := ho; exact ⟨vs, h1, h2⟩) ?_)
    rw [if_neg (show ¬ ((Value.none == rawInt L) = true) from by simp [rawInt])]
    refine wpAny_bind (s_setField S (P := TbP) (P' := TbP) (.tail .head) (fun o ho => by obtain ⟨vs, h1, h2⟩ := ho; exact ⟨vs, h1, (Array.getElem?_eq_some_iff.mp h2).1⟩) (fun o vs ho hd => by
      obtain ⟨vs', h1, h2⟩ := ho
      rw [hd] at h1; cases h1
      exact ⟨_, rfl, by simp [(Array.getElem?_eq_some_iff.mp h2).1]⟩) fun s1 S1 => ?_)
    refine s_entry S1 f1 f2' hfr fun T' s2 S2 => H _ ⟨e, d, rfl, .inl ⟨T', ?_⟩⟩
    have S3 := S2.pop
    have S4 := S3.permM (M' := (T, TbP) :: (e, ExcP d (.ref T')) :: (T', TbP) :: (d, MsgP msg) :: M) ((List.Perm.cons _ (List.Perm.swap _ _ _)).trans (List.Perm.swap _ _ _))
    exact S4.dropM
  · refine wpAny_bind (wpAny_bind (s_field S (.head _) (v := .none) (fun o ho => by obtain ⟨_, _, vs, h1, h2⟩ := ho; exact ⟨vs, h1, h2⟩) ?_))
    rw [if_neg (by decide)]
    exact s_entry S f1 f2' hfr fun T' s2 S2 => H _ ⟨e, d, rfl, .inl ⟨T', S2.pop⟩⟩
end
end Mine

end
section
open PySem PySem.W PySem.Calls PyProof.Rows PySem.Spec
set_option Elab.async false
set_option maxRecDepth 100000
set_option linter.unusedVariables false
namespace Mine
structure ExcC (K : Frag) : Prop where
  cls : typeIn K (.ref 75) = some (.type "type")
  base : mroIn K 75 (.type "BaseException") = some true
  lk : ∃ oc od cd sl, K.lookup 75 = some ⟨oc, od, .cls cd, sl⟩
section
variable {σ : Sig} {A : Around} {E : Value → Shared → Prop} {L : Addr} {m : Know} {Fs : List (Addr × Know)} {M : Mut} {X : Led} {s : Shared} {env : Env} {x : Sem Value} {Q : Flow → Shared → Prop}
theorem isType_false {M : Model} {h : Heap} {e : Addr} {o : Obj} (ho : h.get? e = some o) (hn : ∀ cd, o.data ≠ .cls cd) : Looks M h (isType (.ref e)) false := by
  refine (Looks.ld ho).andThen (Looks.of_pure ?_)
  obtain ⟨c, d, dt, sl⟩ := o
  cases dt <;> first | rfl | (exact absurd rfl (hn _))
theorem p_raise (hX : ExcC σ.K) (hR : Rm A 0 (L :: Fs.map (·.1)))
    (h : wpAny σ.M A x (fun v s' => ∃ M X e d msg, v = .ref e ∧ St σ L m Fs ((e, ExcP d .none) :: (d, MsgP msg) :: M) X s' ∧ (∀ s2, St σ L m Fs ((e, ExcP d .none) :: (d, MsgP msg) :: M) X s2 → E v s2)) E s) : wpAny σ.M A (raiseStmt env (some x) none) Q E s := by
  unfold raiseStmt
  refine wpAny_bind (wpAny_mono h (fun v s₁ h₁ => ?_) fun _ _ x => x)
  obtain ⟨M, X, e, d, msg, rfl, S, hE⟩ := h₁
  obtain ⟨o, ho, hc, hd, vs, hv, h1⟩ := S.own _ (.head _)
  have XX := S.ok.In.keeps S.W
  have t1 : Looks σ.M s₁.heap (typeOf (.ref e)) (.ref 75) := by rw [← hc]; exact (Looks.ld ho).andThen .now
  have t2 : Looks σ.M s₁.heap (isInstance (.ref e) (.type "BaseException")) true := t1.andThen (looks_mroIn XX hX.base)
  have t3 : Looks σ.M s₁.heap (typeOf (.ref 75)) (.type "type") := looks_typeIn XX hX.cls
  have t4 : Looks σ.M s₁.heap (isType (.ref e)) false := isType_false ho (fun cd q => by rw [hv] at q; cases q)
  have hE := hE s₁ S
  obtain ⟨hp, g, dr, tk, os⟩ := s₁
  unfold excFromValue isExcClass raisedInstance setFlight
  repeat lk
  rw [hv]
  refine wpAny_pure ?_
  rw [h1]
  refine wpAny_pure ?_
  rw [if_neg (by decide)]
  exact wpAny_pure (wpAny_raiseNew_none hR.hd hE)
end
end Mine

end
section
open PySem PySem.W PySem.Calls PyProof.Rows PySem.Spec Builtin Builtin.ObjectAttr
set_option Elab.async false
set_option maxRecDepth 100000
set_option maxHeartbeats 8000000
set_option linter.unusedVariables false
namespace Mine
noncomputable def mro75 : List Value := [.ref 75, .ref 55, .type "Exception", .type "BaseException", .type "object"]
structure ExcK (K : Frag) : Prop where
  ex : ∃ (oc : Value) (od : Option Addr) (cd : ClassData) (sl : Array (Option Value)), K.lookup 75 = some ⟨oc, od, .cls cd, sl⟩ ∧ cd.mro = mro75 ∧ cd.hasDict = true
  set : findIn K (.ref 75) "__setattr__" = some (some (.builtin "object.__setattr__"))
  tak : takerIn K 75 "message" = some none
section
variable {σ : Sig} {A : Around} {E : Value → Shared → Prop} {L : Addr} {m : Know} {Fs : List (Addr × Know)} {M M' : Mut} {X : Led} {s : Shared} {x : Addr} {v : Value} {Q : Unit → Shared → Prop}
theorem s_store {dx : Addr} {P P' : Obj → Prop} {f : PySem.Str} {tk : Tok} {Qf : Fin → Shared → Prop} (S : St σ L m Fs M X s) (U : Ch dx P P' M M')
    (hP : ∀ o, P o → ∃ es n w, o = dictOf es n ∧ es.length ≤ 500 ∧ getL f es = some w ∧ ∀ h t, P' (dictOf (putL f h (.str f t) v es) (putN f es n)))
    (h : ∀ s', St σ L m Fs M' X s' → Qf (.done (.ret .none)) s') : wpAny σ.M A (storeInDict dx (.str f tk) f v) Qf E s := by
  obtain ⟨od, hod, hpd⟩ := S.own _ U.mem
  have hod : s.heap.get? dx = some od := hod
  obtain ⟨es, n, w, rfl, hz, hg, hP'⟩ := hP _ hpd
  unfold storeInDict
  refine wpAny_bind (wpAny_pure (wpAny_bind ?_))
  unfold nsSet
  refine wpAny_bind (wpAny_bind (wpAny_askSetting (wpAny_pure (wpAny_bind (wpAny_mkText (wpAny_bind (wpAny_loadPart hod ?_)))))))
  dsimp only
  have c : (!es.toArray.any (·.key.isStr f) && es.toArray.any (·.refKey)) = false := by
    rw [← Array.any_toList, ← Array.any_toList]
    unfold getL at hg
    split at hg
    · rename_i en he
      rw [List.any_eq_true.mpr ⟨en, List.mem_of_find?_eq_some he, List.find?_some he⟩]; rfl
    · split at hg
      · cases hg
      · rename_i z; rw [Bool.not_eq_true] at z; rw [z, Bool.and_false]
  rw [aRefKeyMayBeTheName_at, c]
  refine wpAny_updatePart hod ?_
  have hg' : (s.heap.update dx (Obj.putName f (PyData.keyHash σ.w.params f) (.str f s.toks) v)).get? dx = some (dictOf (putL f (PyData.keyHash σ.w.params f) (.str f s.toks) v es) (putN f es n)) := by
    rw [← putName_dict]
    exact Heap.get?_update_self _ hod (by rw [putName_dict]; rfl)
  have S' : St σ L m Fs M' X { s with heap := s.heap.update dx (Obj.putName f (PyData.keyHash σ.w.params f) (.str f s.toks) v), toks := s.toks + 1 } :=
    S.setMut U (fun b o hb e => Heap.get?_update_of_ne _ (fun q => hb q.symm) e) ⟨_, hg', hP' _ _⟩
  refine wpAny_bind (wpAny_lookBehind hg' (pastItsLine_dict (by rw [List.size_toArray, sizeLine_eq]; have := put_len f (PyData.keyHash σ.w.params f) (.str f s.toks) v es; omega)) ?_)
  exact wpAny_pure (h _ S')
/-- a new exception: no dict yet -/
noncomputable def ExcN : Obj → Prop := fun o => o.cls = .ref 75 ∧ o.dict = none ∧ ∃ vs, o.data = .fields vs ∧ vs[1]? = some .none
theorem e_set (hK : ExcK σ.K) (S : St σ L m Fs ((x, ExcN) :: M) X s)
    (h : ∀ d s', St σ L m Fs ((x, ExcP d .none) :: (d, DA [(Str.ofString "message", v)]) :: M) X s' → Q () s') : wpAny σ.M A (setAttr (.ref x) (Str.ofString "message") v) Q E s := by
  obtain ⟨ox, hox, hcl, hdx, vs, hvs, h1⟩ := S.own _ (.head _)
  have hox : s.heap.get? x = some ox := hox
  have I : InstAt s.heap x ox 75 none := ⟨hox, hcl, by unfold notCls; rw [hvs], by rw [hdx]; trivial⟩
  have XX := S.ok.In.keeps S.W
  obtain ⟨oc, od, cd, sl, hlk, hmro, hhd⟩ := hK.ex
  have hcd : clsIn σ.K 75 = some cd := by unfold clsIn; rw [hlk]
  have SF := PySem.F.store_object
  refine set_plain XX I hK.set ?_
  have sub : Looks σ.M s.heap (isInstance (.ref x) (.type "object")) true := I.type.andThen (looks_mroIn XX (by unfold mroIn; rw [hcd, Option.bind_some, hmro]; rfl))
  have hm : Looks σ.M s.heap (mroOf (.ref 75)) cd.mro := (looks_clsIn XX hcd).andThen .now
  refine codeAny_call_builtin SF.slot.plain SF.entry (@check_slot _ _ _ { s with toks := s.toks + 1 } "object.__setattr__" "object" "__setattr__" (.ref x) [.str (Str.ofString "message") s.toks, v] [] _ SF.kind SF.split sub (SF.args (.ref x) (.str (Str.ofString "message") s.toks) v) ?_)
  obtain ⟨attr, ha, hr⟩ := Option.bind_eq_some_iff.mp hK.tak
  have L3 : Looks σ.M s.heap (storeTaker? attr) none := by
    cases attr with
    | none => exact .now
    | some a =>
      obtain ⟨b, hb, e⟩ := Option.map_eq_some_iff.mp hr
      refine (looks_takesIn XX hb).andThen ?_
      cases b <;> first | exact .now | cases e
  have hpass : refuseLoop (.ref x) "__setattr__" cd.mro = pure () := by
    rw [hmro]; unfold mro75
    rw [refuseLoop_ref, refuseLoop_ref]
    exact PySem.F.store_Exception.passes _
  rw [osa_eq, refuse_eq]
  refine wpAny_bind (wpAny_bind (Looks.here (s := { s with toks := s.toks + 1 }) I.type (wpAny_bind (Looks.here (s := { s with toks := s.toks + 1 }) hm ?_))))
  rw [hpass]
  refine wpAny_pure (wpAny_bind (Looks.here (s := { s with toks := s.toks + 1 }) I.type (wpAny_bind (Looks.here (s := { s with toks := s.toks + 1 }) (looks_findIn XX ha) (wpAny_bind (Looks.here (s := { s with toks := s.toks + 1 }) L3 ?_))))))
  dsimp only
  obtain ⟨oc', odi, oda, osl⟩ := ox
  dsimp only at hcl hdx hvs
  subst hcl hdx hvs
  refine wpAny_bind (wpAny_pure (wpAny_bind (wpAny_bind (wpAny_loadPart hox (wpAny_bind (Looks.here (s := { s with toks := s.toks + 1 }) (looks_clsIn XX hcd) ?_))))))
  rw [hhd]
  have S0 := S.toks (s.toks + 1)
  have S1 := S0.pushM (P := DA []) da_nil
  have hx1 : (s.heap.push emptyDict).get? x = some ⟨.ref 75, none, .fields vs, osl⟩ := Heap.get?_push_of_some _ hox
  have S2 := S1.setMut (s' := { s with heap := (s.heap.push emptyDict).update x fun o => { cls := o.cls, dict := some s.heap.objs.size, data := o.data, slots := o.slots }, toks := s.toks + 1 }) (P' := ExcP s.heap.objs.size .none) (.tail .head)
    (fun b o hb e => Heap.get?_update_of_ne _ (fun q => hb q.symm) e) ⟨_, Heap.get?_update_self _ hx1 rfl, rfl, rfl, vs, rfl, h1⟩
  show wpAny _ _ (alloc emptyDict >>= fun d => _) _ _ _
  refine wpAny_bind (wpAny_alloc (wpAny_bind (wpAny_update hx1 ?_)))
  refine wpAny_pure (a := some s.heap.objs.size) ?_
  refine s_store (f := Str.ofString "message") S2 (P := DA []) (P' := DA [(Str.ofString "message", v)]) .head (fun o ho => ?_) fun s3 S3 => h _ _ (S3.permM (List.Perm.swap _ _ _))
  obtain ⟨es, n, rfl, z1, z2⟩ := ho
  have z1 : es.length ≤ 0 := z1
  refine ⟨es, n, _, rfl, by omega, z2 _, fun h t => ⟨_, _, rfl, ?_, fun y => ?_⟩⟩
  · have := put_len (Str.ofString "message") h (.str (Str.ofString "message") t) v es
    simp only [List.length_cons, List.length_nil]; omega
  · by_cases hy : y = Str.ofString "message"
    · subst hy; rw [get_same]; simp
    · rw [get_other hy, z2, List.lookup_cons]
      have : (y == Str.ofString "message") = false := by simpa using hy
      rw [this]
end
theorem excK_of (P : Params) : ExcK (frag P) := by
  refine ⟨⟨_, _, _, _, at_75 _, rfl, rfl⟩, by kernel_rfl, by kernel_rfl⟩
theorem excC_of (P : Params) : ExcC (frag P) := by
  refine ⟨by kernel_rfl, by kernel_rfl, ⟨_, _, _, _, at_75 _⟩⟩
end Mine

end
section
open PySem PySem.W PySem.Calls PyProof.Rows PySem.Spec Builtin Builtin.ObjectAttr
set_option Elab.async false
set_option maxRecDepth 100000
set_option maxHeartbeats 8000000
set_option linter.unusedVariables false
namespace Mine
noncomputable abbrev bmE : List Value := [.type "Exception", .type "BaseException", .type "object"]
structure ExcO (K : Frag) : Prop where
  ex : ∃ (nm q : PySem.Str) (N : Addr) (bs : List Value) (hdct : Bool) (sn : List PySem.Str) (sub : List Value) (ab : Bool) (col : Option Bool) (dd : Option Addr) (k0 k1 k2 k3 k5 : Option Value),
    K.lookup 75 = some (excClassObj nm q 75 N bs (.ref 55 :: bmE) hdct sn sub ab col dd k0 k1 k2 k3 k5 "Exception.__new__")
  tail : ∃ (oc : Value) (od : Option Addr) (cd : ClassData) (sl : Array (Option Value)), K.lookup 55 = some ⟨oc, od, .cls cd, sl⟩ ∧ (∃ (oc : Value) (od : Option Addr) (es : Array DictEntry) (n : Nat) (sl : Array (Option Value)), K.lookup cd.ns = some ⟨oc, od, .dict es n, sl⟩ ∧ (es.all fun e => match e.key with | .str _ _ => true | _ => false) = true) ∧ nsIn K cd.ns "__init__" = some none
  call : specialIn K (.ref 75) "__call__" = some (some (.builtin "type.__call__"))
  typ : instIn K (.ref 75) (.type "type") = some true
  self : mroIn K 75 (.ref 75) = some true
theorem excO_of (P : Params) : ExcO (frag P) := by
  refine ⟨⟨_, _, _, _, _, _, _, _, _, _, _, _, _, _, _, at_75 _⟩, ⟨_, _, _, _, at_55 _, ⟨_, _, _, _, _, at_54 _, by kernel_rfl⟩, by kernel_rfl⟩, by kernel_rfl, by kernel_rfl, by kernel_rfl⟩
section
variable {prog : Program} {w : World} {A : Around} {K : Frag} {R : Result → Shared → Prop} {h : Heap} {g : Array GenState} {d : Drawn} {t : Nat} {os : OsState}
theorem e_make {rest : List Value} (X : K.In h) (hO : ExcO K) (hi : findIn K (.ref 75) "__init__" = some (some (.ref 72))) (hf : typeIn K (.ref 72) = some (.type "function")) (hz : rest.length ≤ sizeLine)
    (hq : codeAny (model prog w) (A.under (.builtin "type.__call__" ⟨.ref 75 :: rest, []⟩)) (.call (.ref 72) ⟨.ref (h.objs.size + 1) :: rest, []⟩) (InitBack (h.objs.size + 1) R)
      ⟨(h.push { cls := .type "tuple", data := .seq rest.toArray }).push { cls := .ref 75, data := .fields #[.ref h.objs.size, .none, .none, .none, .bool false, .none] }, g, d, t, os⟩) :
    codeAny (model prog w) A (.call (.ref 75) ⟨rest, []⟩) R ⟨h, g, d, t, os⟩ := by
  obtain ⟨nm, q, N, bs, hdct, sn, sub, ab, col, dd, k0, k1, k2, k3, k5, hlk⟩ := hO.ex
  have F := PySem.F.excBase_Exception
  have T : OwnTail h bmE (.ref 55 :: bmE) := by
    obtain ⟨oc, od, cd, sl, h1, ⟨oc2, od2, es, n, sl2, h4, h5⟩, h3⟩ := hO.tail
    have h2 : nsOkIn K cd.ns = true := by unfold nsOkIn; rw [h4]; exact h5
    exact .own (X _ _ h1) (.of_isNs (isNs_of_in X h2)) (nsMap_none_of_in X h2 h3) .base
  have hC := X _ _ hlk
  have hi' := looks_findIn (M := model prog w) X hi
  have call := looks_specialIn (M := model prog w) X hO.call
  have typ := looks_instIn (M := model prog w) X hO.typ
  have self := looks_mroIn (M := model prog w) X hO.self
  refine codeAny_of_tree ?_
  show wpAny _ _ (callAny (.ref 75) _) _ _ _
  refine nd_load hC ?_
  show wpAny _ _ (callAny.viaDunder (.ref 75) _) _ _ _
  unfold callAny.viaDunder
  refine wpAny_bind (call.at ?_)
  dsimp only
  rw [tc_bind]
  refine wpAny_bind (wpAny_pure (wpAny_bind (wpAny_pure ?_)))
  refine wpAny_pure (a := Fin.again (.call (.builtin "type.__call__") ⟨.ref 75 :: rest, []⟩)) (And.intro rfl ?_)
  refine codeAny_call_builtin_at (Code.quiet_builtin _ (by decide +kernel)) entry_typeCall (check_slot tc_kind tc_split typ (tc_args _ _ _) ?_)
  unfold Builtin.«type.__call__»
  have e4 : (Value.ref 75 :: Value.ref 55 :: bmE).isEmpty = false := rfl
  have hm : Looks (model prog w) h (mroOf (.ref 75)) (.ref 75 :: .ref 55 :: bmE) := ((Looks.ld (part := none) hC).andThen .now).andThen .now
  have hmb : Looks (model prog w) h (Bind.madeBy (.ref 75)) (some "Exception.__new__") := fun A' Q' E' s' k q' => by
    obtain ⟨hh, g', d', t', os'⟩ := s'
    exact wpAny_madeBy_exc (k _ _ hC) q'
  repeat (first | simp only [e4, Bool.false_eq_true, if_false] | with_reducible refine wpAny_call ?_ | lk)
  refine codeAny_call_builtin_code (Code.quiet_builtin _ F.quiet) (wpAny_check_new_subT F T hC ?_)
  refine codeAny_exc_new_subT F T hC ?_ hz
  have k : ∀ b o, h.get? b = some o → ((h.push { cls := .type "tuple", data := .seq rest.toArray }).push { cls := .ref 75, data := .fields #[.ref h.objs.size, .none, .none, .none, .bool false, .none] }).get? b = some o := fun b o e => Heap.get?_push_of_some _ (Heap.get?_push_of_some _ e)
  have hx : ((h.push { cls := .type "tuple", data := .seq rest.toArray }).push { cls := .ref 75, data := .fields #[.ref h.objs.size, .none, .none, .none, .bool false, .none] }).get? (h.objs.size + 1) = some { cls := .ref 75, data := .fields #[.ref h.objs.size, .none, .none, .none, .bool false, .none] } := by heap_get
  generalize hH : (h.push { cls := .type "tuple", data := .seq rest.toArray }).push { cls := .ref 75, data := .fields #[.ref h.objs.size, .none, .none, .none, .bool false, .none] } = H at *
  have t1 : Looks (model prog w) H (typeOf (.ref (h.objs.size + 1))) (.ref 75) := (Looks.ld hx).andThen .now
  have s1 := self.keeps k
  have i1 := hi'.keeps k
  have b1 := (bind_fn (M := model prog w) X (.ref (h.objs.size + 1)) hf).keeps k
  unfold isInstance callSpecial? specialOf
  repeat (first | with_reducible refine wpAny_call ?_ | lk)
  refine codeAny_mono hq fun r s' z => ?_
  rcases r with e | (v | _ | _ | _) <;> first | exact z | exact z.elim | skip
  obtain ⟨rfl, z⟩ := z
  exact wpAny_pure (wpAny_pure z)
end
end Mine

end
section
open PySem PySem.W PySem.Calls PyProof.Rows PySem.Spec
set_option Elab.async false
set_option maxRecDepth 100000
set_option maxHeartbeats 8000000
set_option linter.unusedVariables false
namespace Mine
inductive InitEE (K : Frag) : Prop
  | mk (name qual : PySem.Str) (pms : Arguments) (body : List Stmt) (sc : Scope) (dV kV doc pm cdv ct oc : Value) (an od : Option Addr) (osl : Array (Option Value))
    (h1 : K.lookup 72 = some ⟨oc, od, .func (fnOf name qual pms body sc dV kV doc pm an cdv ct), osl⟩) (h2 : codeIn K cdv qual = true) (h3 : defOk ["self", "message"] sc = true) (h4 : (sc.names.all fun p => p.2 != .cell) = true) (h5 : initOf body = some [(Str.ofString "message", IA.nm (Str.ofString "message"))]) (h6 : sc.names.take 2 = [(Str.ofString "self", NameKind.local), (Str.ofString "message", NameKind.local)])
    (h8 : ∀ s v0 v1, BindsTo s (fnOf name qual pms body sc dV kV doc pm an cdv ct) ⟨[v0, v1], []⟩ [("self", v0), ("message", v1)]) : InitEE K
structure InitE (K : Frag) : Prop where
  fn : findIn K (.ref 75) "__init__" = some (some (.ref 72))
  ty : typeIn K (.ref 72) = some (.type "function")
  ex : InitEE K
theorem initE_of (P : Params) : InitE (frag P) :=
  ⟨by kernel_rfl, by kernel_rfl, _, _, _, _, _, _, _, _, _, _, _, _, _, _, _, at_72 _, by kernel_rfl, by kernel_rfl, by kernel_rfl, by kernel_rfl, by kernel_rfl, fun s v0 v1 => BindsTo.of_eq rfl⟩
section
variable {σ : Sig} {A : Around} {E : Value → Shared → Prop} {L : Addr} {m : Know} {Fs : List (Addr × Know)} {M : Mut} {X : Led} {s : Shared} {x : Addr} {env : Env} {ns : List (PySem.Str × NameKind)} {cs : List (PySem.Str × Addr)}
theorem e_walk (hK : ExcK σ.K) (V : EnvIs env L ns cs) {v : Value} (h1 : (Str.ofString "self", NameKind.local) ∈ ns ∧ (Str.ofString "self", some (some (Value.ref x))) ∈ m) (h2 : (Str.ofString "message", NameKind.local) ∈ ns ∧ (Str.ofString "message", some (some v)) ∈ m) {Q : Flow → Shared → Prop} {body : List Stmt} (h0 : initOf body = some [(Str.ofString "message", .nm (Str.ofString "message"))])
    (S : St σ L m Fs ((x, ExcN) :: M) X s) (H : ∀ d s', St σ L m Fs ((x, ExcP d .none) :: (d, DA [(Str.ofString "message", v)]) :: M) X s' → Q .next s') : wpAny σ.M A (execs body env) Q E s := by
  cases body with
  | nil => cases h0
  | cons st body =>
    obtain ⟨f, e, a, l, p1, p2, p3, rfl, ha, hl2, hx⟩ := initOf_cons h0
    cases hx
    have hr : body = [] := by
      cases body with
      | nil => rfl
      | cons st2 r2 => obtain ⟨_, _, _, _, _, _, _, _, _, _, hx⟩ := initOf_cons hl2; cases hx
    subst hr
    refine wpAny_execs_cons (plainObj_wpAny_Assign_Attribute (ia_eval (binds := [(Str.ofString "message", v)]) ha V S (fun y hy => ?_) fun w s1 hw S1 => ?_) swaps_attr)
    · cases List.mem_singleton.mp hy
      exact ⟨h2.1, v, rfl, h2.2⟩
    · cases (show some v = some w from hw)
      refine r_local S1 V h1.1 h1.2 ?_
      exact e_set hK S1 fun d s2 S2 => x_nil (H d s2 S2)
theorem p_mkE (hK : KK σ) {msg : PySem.Str} {t : Tok} {Q : Value → Shared → Prop} (S : St σ L m Fs M X s) (hR : Rm A 3 (L :: Fs.map (·.1)))
    (H : ∀ e d s', St σ L m Fs ((e, ExcP d .none) :: (d, MsgP msg) :: M) X s' → Q (.ref e) s') : wpAny σ.M A (call (.ref 75) [.str msg t]) Q E s := by
  have XX := S.ok.In.keeps S.W
  have I : InitE σ.K := by rw [hK]; exact initE_of _
  have hO : ExcO σ.K := by rw [hK]; exact excO_of _
  have hE : ExcK σ.K := by rw [hK]; exact excK_of _
  refine wpAny_call ?_
  have S1 := (S.pushX (o := { cls := .type "tuple", data := .seq [Value.str msg t].toArray })).subX (X' := X) fun p hp => .tail _ hp
  have S2 := S1.pushM (P := ExcN) (o := { cls := .ref 75, data := .fields #[.ref s.heap.objs.size, .none, .none, .none, .bool false, .none] }) ⟨rfl, rfl, _, rfl, rfl⟩
  simp only [Heap.size_push] at S2
  obtain ⟨hh, g, d, tk, os⟩ := s
  refine e_make XX hO I.fn I.ty (by rw [sizeLine_eq]; simp) ?_
  obtain ⟨name, qual, pms, body, sc, dV, kV, doc, pm, cdv, ct, oc, an, od, osl, h1, h2, h3, h4, h5, h6, h8⟩ := I.ex
  have D := defOk_says h3
  refine c_callC (k := 1) D S2 hR.creation h1 h2 (h8 _ _ _) rfl fun env L' cs s' V hfr hk hcs hcn hap hcM S' hR' => ?_
  have hc0 : cs = [] := by rw [hcs]; exact cells_none h4
  subst hc0
  have n1 : (Str.ofString "self", NameKind.local) ∈ sc.names := List.mem_of_mem_take (by rw [h6]; exact .head _)
  have n2 : (Str.ofString "message", NameKind.local) ∈ sc.names := List.mem_of_mem_take (by rw [h6]; exact .tail _ (.head _))
  have k1 := knowL_has (binds := [(Str.ofString "self", Value.ref (hh.objs.size + 1)), (Str.ofString "message", Value.str msg t)]) n1
  have k2 := knowL_has (binds := [(Str.ofString "self", Value.ref (hh.objs.size + 1)), (Str.ofString "message", Value.str msg t)]) n2
  refine e_walk hE V (x := hh.objs.size + 1) (v := .str msg t) ⟨n1, k1⟩ ⟨n2, k2⟩ h5 S' fun d2 s2 S3 => ?_
  refine ⟨rfl, H _ d2 _ ?_⟩
  refine S3.pop.weak (.tail .head) fun o ho => ?_
  obtain ⟨es, n, rfl, hz, hg⟩ := ho
  exact ⟨es, n, t, rfl, da_at hg (by simp) rfl⟩
end
end Mine

end
section
open PySem PySem.W PySem.Calls PyProof.Rows PySem.Spec
set_option Elab.async false
set_option maxRecDepth 100000
set_option maxHeartbeats 8000000
set_option linter.unusedVariables false
namespace Mine
theorem ret_ct {σ : Sig} {f : Addr} {G : PySem.Str → Gl} {params : List PySem.Str} {k : Nat} {args : List PV} {Q : PV → Prop} {R : PySem.Str → Prop} {name qual : PySem.Str} {pms : Arguments} {e : Expr} {p : Pos} {sc : Scope} {dV kV doc pm cdv ct oc : Value} {an od : Option Addr} {osl : Array (Option Value)}
    (hK : KOK σ.K) (hG : GlobOK σ G) (h1 : σ.K.lookup f = some ⟨oc, od, .func (fnOf name qual pms [.Return (some e) p] sc dV kV doc pm an cdv ct), osl⟩) (h2 : codeIn σ.K cdv qual = true) (h3 : defOk params sc = true)
    (h6 : ∀ s vals, vals.length = params.length → BindsTo s (fnOf name qual pms [.Return (some e) p] sc dV kV doc pm an cdv ct) ⟨vals, []⟩ (params.zip vals)) (hl : args.length = params.length)
    (hw : wpE (Ct σ) k (args.map .v ++ List.replicate (sc.names.length - args.length) .u) (compE 60 (cxOf G sc.names []) e) Q R) : Ct σ (k + 1) f args Q R := by
  have D := defOk_says h3
  intro r A E L m Fs M X s vs Q' S hr hR hvs HQ HX
  have hvl : vs.length = params.length := by rw [← hl, hvs.length]
  refine r_callC D S hR h1 h2 (h6 s vs hvl) (zip_fst hvl.symm) fun env L' cs s' V hfr hk hcs hcn hap hcM S' hR' => ?_
  have E0 := entry (G := G) (own := []) D hcs hcn hcM hvs hl hr S'
  refine x_ret ((ok_all hK 60).1 (gok_of hG) V hR' (E0.rel (cxs_of D hcs hcn hap)) hw (fun v p s2 X2 hX S2 hv hq => ?_) fun v msg s2 X2 hX hrz hm => ?_)
  · exact HQ _ _ _ _ hX ((S2.st.subM E0.keep S.mnd).pop) hv hq
  · exact p_leave (hrz.subM E0.keep S.mnd) hfr hk (hR.low (Nat.zero_le _)) fun s3 hr3 => HX _ _ _ _ hX hr3 hm
end Mine
namespace Mine
section
variable {σ : Sig}
theorem ct_char {k : Nat} {l : List PV} {Q : PV → Prop} {R : PySem.Str → Prop} (hK : KK σ) (hl : l.length ≤ 2 ^ 20) (h : Q (.vec (Str.ofString "character") (.list l) .none)) : Ct σ (k + 4) 286 [.list l] Q R := by
  refine ret_ct (kok hK) (glob_ok hK) (by rw [hK]; exact at_286 _) (by rw [hK]; kernel_rfl) (by kernel_rfl) (params := ["items"]) (fun s vals hl => len1 hl fun v0 => BindsTo.of_eq rfl) rfl ?_
  exact ⟨hl, w_vec hK h⟩
end
end Mine

end
section
open PySem PySem.W PySem.Calls PyProof.Rows PySem.Spec
set_option Elab.async false
set_option maxRecDepth 100000
set_option linter.unusedVariables false
namespace Mine
section
variable {σ : Sig} {A : Around} {E : Value → Shared → Prop} {L : Addr} {m : Know} {Fs : List (Addr × Know)} {M : Mut} {X : Led} {s : Shared} {r : Option Addr}
theorem p_named_of (hK : KK σ) {name qual : PySem.Str} {pms : Arguments} {sc : Scope} {dV kV doc pm cdv ct oc : Value} {an od : Option Addr} {osl : Array (Option Value)} {p1 p2 p3 p4 p5 p6 p7 p8 p9 p10 p11 p12 p13 p14 : Pos} {j1 j2 : Nat}
    (h1 : σ.K.lookup 293 = some ⟨oc, od, .func (fnOf name qual pms [.If (.Compare (.Name "names" p1) [.IsNot] [.Constant .none j1 p2] p3) [.Assign [.Attribute (.Name "v" p4) "attrs" p5] (.Dict [some (.Constant (.str "names") j2 p6)] [.Call (.Name "character" p7) [.Name "names" p8] [] p9] p10) p11] [] p12, .Return (some (.Name "v" p13)) p14] sc dV kV doc pm an cdv ct), osl⟩) (h2 : codeIn σ.K cdv qual = true) (h3 : defOk ["v", "names"] sc = true) (h4 : sc.names.take 2 = [(Str.ofString "v", NameKind.local), (Str.ofString "names", NameKind.local)]) (h5 : (sc.names.all fun p => p.2 != .cell) = true) (h6 : compE 60 (cxOf G0 sc.names []) (.Compare (.Name "names" p1) [.IsNot] [.Constant .none j1 p2] p3) = .cmp .IsNot (.var 1) (.lit .none)) (h8 : compE 60 (cxOf G0 sc.names []) (.Call (.Name "character" p7) [.Name "names" p8] [] p9) = .call 286 [.var 1]) (h7 : ∀ s v0 v1, BindsTo s (fnOf name qual pms [.If (.Compare (.Name "names" p1) [.IsNot] [.Constant .none j1 p2] p3) [.Assign [.Attribute (.Name "v" p4) "attrs" p5] (.Dict [some (.Constant (.str "names") j2 p6)] [.Call (.Name "character" p7) [.Name "names" p8] [] p9] p10) p11] [] p12, .Return (some (.Name "v" p13)) p14] sc dV kV doc pm an cdv ct) ⟨[v0, v1], []⟩ [("v", v0), ("names", v1)]) {a d : Addr} {kd : PySem.Str} {t : Tok} {vi w : Value} {l : List PV} {Q : Value → Shared → Prop} (S : St σ L m Fs M X s) (hR : Rm A 5 (L :: Fs.map (·.1))) (hrow : ∀ b, r = some b → (b, RowO) ∈ M) (ha : (a, InstP 246 d) ∈ M) (hd : (d, VecP (.str kd t) vi .none) ∈ M) (hw : Rep σ r X (.list l) w) (hl : l.length ≤ 2 ^ 20)
    (H : ∀ v' e vs M' X' s', Sub X X' → St σ L m Fs M' X' s' → (∀ p ∈ M, p.1 ≠ d → p ∈ M') → (d, VecP (.str kd t) vi (.ref e)) ∈ M' → (e, fun o => o.IsDictOf (strK σ) ([Str.ofString "names"].zip vs)) ∈ M' → e ∉ M.map (·.1) → (e == sysModules) = false → vs.length = 1 →
      Reps σ r X' [.vec (Str.ofString "character") (.list l) .none] vs → Q v' s') : wpAny σ.M A (call (.ref 293) [.ref a, w]) Q E s := by
  have D := defOk_says h3
  refine r_callC (k := 4) D S hR h1 h2 (h7 _ _ _) rfl fun env L' cs s' V hfr hk hcs hcn hap hcM S' hR' => ?_
  have hc0 : cs = [] := by rw [hcs]; exact cells_none h5
  subst hc0
  have S2 : St σ L' (knowL sc.names [(Str.ofString "v", Value.ref a), (Str.ofString "names", w)]) ((L, m) :: Fs) M X s' := S'
  have n1 : (Str.ofString "v", NameKind.local) ∈ sc.names := List.mem_of_mem_take (by rw [h4]; exact .head _)
  have n2 : (Str.ofString "names", NameKind.local) ∈ sc.names := List.mem_of_mem_take (by rw [h4]; exact .tail _ (.head _))
  have k1 : (Str.ofString "v", some (some (Value.ref a))) ∈ knowL sc.names [(Str.ofString "v", Value.ref a), (Str.ofString "names", w)] := knowL_has (binds := [(Str.ofString "v", Value.ref a), (Str.ofString "names", w)]) n1
  have k2 : (Str.ofString "names", some (some w)) ∈ knowL sc.names [(Str.ofString "v", Value.ref a), (Str.ofString "names", w)] := knowL_has (binds := [(Str.ofString "v", Value.ref a), (Str.ofString "names", w)]) n2
  have g0 : sc.names[0]? = some (Str.ofString "v", NameKind.local) := by
    have := congrArg (·[0]?) h4; simpa [List.getElem?_take] using this
  have g1 : sc.names[1]? = some (Str.ofString "names", NameKind.local) := by
    have := congrArg (·[1]?) h4; simpa [List.getElem?_take] using this
  have hlen : 2 ≤ sc.names.length := (List.getElem?_eq_some_iff.mp g1).1
  have RL : Rel σ r (cxOf G0 sc.names []) [] ([.u, .v (.list l)] ++ List.replicate (sc.names.length - 2) .u) L' (knowL sc.names [(Str.ofString "v", Value.ref a), (Str.ofString "names", w)]) ((L, m) :: Fs) M X s' := by
    refine ⟨S2, hrow, fun x i b q1 q2 q3 => ?_, fun y hy => ?_, ?_⟩
    · match i, q2 with
      | 0, q2 => simp at q2; exact absurd q2.symm q3
      | 1, q2 =>
        simp at q2; subst q2
        obtain ⟨kd', hk'⟩ := isVar_ix q1
        rw [g1] at hk'; cases hk'
        exact ⟨w, .inl ⟨n2, k2⟩, hw⟩
      | i + 2, q2 =>
        rw [List.getElem?_append_right (by simp)] at q2
        rw [List.getElem?_replicate] at q2
        split at q2
        · cases q2; exact absurd rfl q3
        · cases q2
    · have := List.all_eq_true.mp h5 _ hy
      simp at this
    · show _ = sc.names.length
      simp; omega
  refine x_if ((ok_all (kok hK) 60).2 (gok_of (glob_ok hK)) V hR' RL (Q := fun b => b = true) (R := fun _ => False) ?_ (fun b s3 X3 hX3 R3 hb => ?_) fun v msg s3 X3 hX hr hm => hm.elim)
  · rw [h6]; exact rfl
  · subst hb
    rw [if_pos rfl]
    refine wpAny_execs_cons (plainObj_wpAny_Assign_Attribute (s_dict1own (n := 60) (k := 4) (Fs := (L, m) :: Fs) (ok_all (kok hK) 60).1 (gok_of (glob_ok hK)) V hR' R3 (Q := fun p => p = .vec (Str.ofString "character") (.list l) .none) (R := fun _ => False) ?_ (fun e v p s4 X4 hX4 S4 hsm hv hp => ?_) fun v msg s4 X4 hX hr hm => hm.elim) swaps_attr)
    · rw [h8]
      exact ct_char (k := 0) hK hl rfl
    · subst hp
      refine r_local S4 V n1 k1 ?_
      have hne : e ∉ M.map (·.1) := (List.nodup_cons.mp S4.mnd).1
      obtain ⟨M1, U⟩ := Ch.ex (VecP (.str kd t) vi (.ref e)) hd
      have U' : Ch d (VecP (.str kd t) vi .none) (VecP (.str kd t) vi (.ref e)) ((e, fun o => o.IsDictOf (strK σ) ([Str.ofString "names"].zip [v])) :: M) ((e, _) :: M1) := .tail U
      refine p_setA hK S4 (.tail _ ha) U' rfl fun s5 S5 => ?_
      refine wpAny_execs_nil (x_ret (r_local S5 V n1 k1 ?_))
      exact H _ e [v] _ X4 s5 (hX3.trans hX4) S5.pop (fun p hp hne => .tail _ (U.old hne hp)) (.tail _ U.new) (.head _) hne hsm rfl (.cons hv .nil)
theorem p_named (hK : KK σ) {a d : Addr} {kd : PySem.Str} {t : Tok} {vi w : Value} {l : List PV} {Q : Value → Shared → Prop} (S : St σ L m Fs M X s) (hR : Rm A 5 (L :: Fs.map (·.1))) (hrow : ∀ b, r = some b → (b, RowO) ∈ M) (ha : (a, InstP 246 d) ∈ M) (hd : (d, VecP (.str kd t) vi .none) ∈ M) (hw : Rep σ r X (.list l) w) (hl : l.length ≤ 2 ^ 20)
    (H : ∀ v' e vs M' X' s', Sub X X' → St σ L m Fs M' X' s' → (∀ p ∈ M, p.1 ≠ d → p ∈ M') → (d, VecP (.str kd t) vi (.ref e)) ∈ M' → (e, fun o => o.IsDictOf (strK σ) ([Str.ofString "names"].zip vs)) ∈ M' → e ∉ M.map (·.1) → (e == sysModules) = false → vs.length = 1 →
      Reps σ r X' [.vec (Str.ofString "character") (.list l) .none] vs → Q v' s') : wpAny σ.M A (call (.ref 293) [.ref a, w]) Q E s :=
  p_named_of hK (by rw [hK]; exact at_293 _) (by rw [hK]; kernel_rfl) (by kernel_rfl) (by kernel_rfl) (by kernel_rfl) (by kernel_rfl) (by kernel_rfl) (fun s v0 v1 => BindsTo.of_eq rfl) S hR hrow ha hd hw hl H
end
end Mine

end
section
open PySem PySem.W PySem.Calls PyProof.Rows PySem.Spec
set_option Elab.async false
set_option maxRecDepth 100000
set_option maxHeartbeats 8000000
set_option linter.unusedVariables false
namespace Mine
structure ExcG (K : Frag) : Prop where
  ga : findIn K (.ref 75) "__getattribute__" = some (some (.builtin "BaseException.__getattribute__"))
  gt : findIn K (.ref 75) "__getattr__" = some none
  msg : findIn K (.ref 75) "message" = some none
  hd : hasDictIn K 75 = true
  base : mroIn K 75 (.type "BaseException") = some true
theorem excG_of (P : Params) : ExcG (frag P) := ⟨by kernel_rfl, by kernel_rfl, by kernel_rfl, by kernel_rfl, by kernel_rfl⟩
section
variable {σ : Sig} {A : Around} {E : Value → Shared → Prop} {L : Addr} {m : Know} {Fs : List (Addr × Know)} {M : Mut} {X : Led} {s : Shared} {e d : Addr} {T : Value} {msg : PySem.Str}
theorem e_get (hK : KK σ) {Q : Value → Shared → Prop} (S : St σ L m Fs M X s) (he : (e, ExcP d T) ∈ M) (hd : (d, MsgP msg) ∈ M) (h : ∀ t s', St σ L m Fs M X s' → Q (.str msg t) s') : wpAny σ.M A (getAttr (.ref e) (Str.ofString "message") true) Q E s := by
  have G : ExcG σ.K := by rw [hK]; exact excG_of _
  have XX := S.ok.In.keeps S.W
  obtain ⟨o, ho, hc, hdd, vs, hv, h1⟩ := S.own _ he
  obtain ⟨o2, ho2, es, n, t, rfl, hat⟩ := S.own _ hd
  have I : InstAt s.heap e o 75 (some (dictOf es n)) := ⟨ho, hc, by unfold notCls; rw [hv], by rw [hdd]; exact ho2⟩
  have hF : findObj σ.K 75 (some (dictOf es n)) (Str.ofString "message") = some (.value (.str msg t)) := findObj_own G.hd G.msg rfl hat.1
  have FB := PySem.F.attrBase_Exception
  have L0 := I.type (M := σ.M)
  have L1 := looks_findIn (M := σ.M) XX G.ga
  have L2 := looks_findIn (M := σ.M) XX G.gt
  have L3 := looks_find (M := σ.M) XX I hF
  have L4 : Looks σ.M s.heap (isInstance (.ref e) (.type "BaseException")) true := L0.andThen (looks_mroIn XX G.base)
  have S1 := S.toks (s.toks + 1)
  have hk : builtinKind "BaseException.__getattribute__" = some .slot := by decide +kernel
  have hsplit : splitId "BaseException.__getattribute__" = some ("BaseException", "__getattribute__") := by decide +kernel
  have ha := F.args_bexc_ga (.ref e) (.str (Str.ofString "message") s.toks)
  have f3 := FB.ga.bind (.ref e)
  have fin := h t _ S1
  obtain ⟨hh, g, dr, tk, os⟩ := s
  unfold getAttr getAttrBy
  refine wpAny_bind (wpAny_mkText (wpAny_holding (wpAny_bind (L0.at (wpAny_bind (L1.at ?_))))))
  dsimp only
  rw [if_neg (by decide +kernel)]
  unfold getAttrByItsOwn hookBefore callGetattribute boundAndCalled
  refine wpAny_bind (L2.at ?_)
  refine wpAny_bind (wpAny_attempt (wpAny_holding ?_))
  rw [if_neg (by decide), f3]
  refine wpAny_bind (wpAny_pure ?_)
  refine wpAny_call ?_
  refine codeAny_call_builtin FB.ga.plain F.entry_bexc_ga (@check_slot _ _ _ ⟨hh, g, dr, tk + 1, os⟩ "BaseException.__getattribute__" "BaseException" "__getattribute__" (.ref e) [.str (Str.ofString "message") tk] [] _ hk hsplit L4 ha ?_)
  unfold Builtin.«object.__getattribute__»
  refine wpAny_bind (wpAny_pure (wpAny_bind (wpAny_pure (wpAny_bind (L0.at (wpAny_bind (L3.at ?_)))))))
  refine wpAny_pure ?_
  show wpAny _ _ (handedOut (.str msg t)) _ _ _
  rw [handedOut_of rfl]
  exact wpAny_pure fin
end
end Mine

end
section
open PySem PySem.W PySem.Calls PyProof.Rows PySem.Spec
set_option Elab.async false
set_option maxRecDepth 100000
set_option maxHeartbeats 8000000
set_option linter.unusedVariables false
namespace Mine
section
variable {σ : Sig} {A : Around} {E : Value → Shared → Prop} {L : Addr} {m : Know} {Fs : List (Addr × Know)} {M M' : Mut} {X : Led} {s : Shared} {k : Nat}
theorem ints_snoc {us : List Value} {l : List Int} (hi : IntsAre us l) (h : l ≠ []) : ∃ us' i t, us = us' ++ [.int i t] ∧ us'.length ≤ us.length ∧ ∃ l', IntsAre us' l' := by
  obtain ⟨y, t, h1, h2, h3⟩ := kpa_ints hi (by rw [hi.length]; exact List.length_pos_iff.mpr h)
  exact ⟨_, _, _, by rw [h2] at h1; exact h1, by simp, _, h3⟩
theorem r_popRow {Q : Value → Shared → Prop} {row : Addr} {us : List Value} {y : Value} {n : Nat} (S : St σ L m Fs M X s) (hm : (row, RowO) ∈ M) (ho : s.heap.get? row = some (lst (us ++ [y]) n)) (hr : IsRow us) (h : ∀ s', St σ L m Fs M X s' → Q y s') :
    wpAny σ.M A (call (.builtin "list.pop") [.ref row]) Q E s := by
  have hz := hr.1
  have hs : sizeLine = 16777216 := sizeLine_eq
  refine call_meets F.slot_list_pop ⟨_, ho, rfl⟩ F.entry_list_pop (F.args_list_pop_1 _) (MeetsSeq.list_pop_last row _ n y (by simp) (by simp; omega)) ⟨ho, ?_⟩
  refine h _ (S.setMut (Ch.same hm) (fun b ob hb e => (Heap.get?_update_other _ _ (Ne.symm hb)).trans e) ⟨_, Heap.get?_update_self _ ho ?_, us, ?_, hr⟩)
  · simp [Obj.mapSeq, Obj.isFreed]
  · simp [Obj.mapSeq, LsP, Array.eraseIdxIfInBounds, List.eraseIdx_append_of_length_le]
theorem w_nxt_of (hK : KK σ) {name qual : PySem.Str} {pms : Arguments} {sc : Scope} {dV kV doc pm cdv ct oc : Value} {an od : Option Addr} {osl : Array (Option Value)} {p1 p2 p3 p4 p5 p6 p7 p8 p9 : Pos} {j : Nat}
    (h1 : σ.K.lookup 441 = some ⟨oc, od, .func (fnOf name qual pms [.Return (some (.IfExp (.Compare (.Name "row" p1) [.NotEq] [.List [] p2] p3) (.Call (.Attribute (.Name "row" p4) "pop" p5) [] [] p6) (.Constant (.int 0) j p7) p8)) p9] sc dV kV doc pm an cdv ct), osl⟩) (h2 : codeIn σ.K cdv qual = true) (h3 : defOk ["row"] sc = true) (h4 : sc.names.take 1 = [(Str.ofString "row", NameKind.local)]) (h5 : (sc.names.all fun p => p.2 != .cell) = true) (h6 : (p5.endLine == p6.line) = true) (h7 : ∀ s v0, BindsTo s (fnOf name qual pms [.Return (some (.IfExp (.Compare (.Name "row" p1) [.NotEq] [.List [] p2] p3) (.Call (.Attribute (.Name "row" p4) "pop" p5) [] [] p6) (.Constant (.int 0) j p7) p8)) p9] sc dV kV doc pm an cdv ct) ⟨[v0], []⟩ [("row", v0)]) {Q : PV → Prop} {R : PySem.Str → Prop} (h : ∀ i, Q (.int i)) : Ct σ (k + 1) 441 [.row] Q R := by
  have D := defOk_says h3
  intro r A E L m Fs M X s vs Q' S hr hR hvs HQ HX
  refine hvs.inv fun v vs' hv hvs => ?_
  obtain rfl := hvs.inv0
  obtain ⟨a, rfl, rfl⟩ := hv
  have hm := hr a rfl
  refine r_callC (k := k) D S hR h1 h2 (h7 _ _) rfl fun env L' cs s' V hfr hk hcs hcn hap hcM S' hR' => ?_
  have hc0 : cs = [] := by rw [hcs]; exact cells_none h5
  subst hc0
  have S2 : St σ L' (knowL sc.names [(Str.ofString "row", Value.ref a)]) ((L, m) :: Fs) M X s' := S'
  have n1 : (Str.ofString "row", NameKind.local) ∈ sc.names := List.mem_of_mem_take (by rw [h4]; exact .head _)
  have k1 : (Str.ofString "row", some (some (Value.ref a))) ∈ knowL sc.names [(Str.ofString "row", Value.ref a)] := knowL_has (binds := [(Str.ofString "row", Value.ref a)]) n1
  have fin : ∀ i t s3, St σ L' (knowL sc.names [(Str.ofString "row", Value.ref a)]) ((L, m) :: Fs) M X s3 → Q' (.int i t) s3 := fun i t s3 S3 => HQ _ (.int i) _ _ (Sub.refl X) S3.pop repI (h i)
  refine x_ret (IfExp_ (tcmp1 (r_local S2 V n1 k1 (List_ (r_spl0 (r_newList S2 fun b s3 S3 => ?_))))))
  obtain ⟨o, ho, us, ⟨n, rfl⟩, hlen, ns, hi⟩ := S3.own (a, RowO) (.tail _ hm)
  refine r_neInts hR' ⟨_, ho, rfl, n, rfl⟩ (S3.listOwn (.head _)) hi .nil (wpAny_truthy_bool ?_)
  refine if_b (fun hc => ?_) (fun hc => ?_)
  · obtain ⟨us', i, t, rfl, hl, l', hi'⟩ := ints_snoc hi (by simpa using hc)
    refine r_meth F.plainAttrs_list F.slot_list_pop F.type_list_pop (r_local S3 V n1 k1 ⟨⟨⟨_, ho, rfl⟩, fun b e => by cases e; exact ⟨_, ho, rfl⟩⟩, r_spl0 ?_⟩) rfl rfl h6 rfl
    exact r_popRow S3 (.tail _ hm) ho ⟨by simp at hlen; omega, l', hi'⟩ fun s4 S4 => fin i t s4 S4.dropM
  · exact r_int S3.dropM fun t s4 S4 => fin 0 t s4 S4
theorem w_nxt (hK : KK σ) {Q : PV → Prop} {R : PySem.Str → Prop} (h : ∀ i, Q (.int i)) : Ct σ (k + 1) 441 [.row] Q R :=
  w_nxt_of hK (by rw [hK]; exact at_441 _) (by rw [hK]; kernel_rfl) (by kernel_rfl) (by kernel_rfl) (by kernel_rfl) (by kernel_rfl) (fun s v0 => BindsTo.of_eq rfl) h
end
end Mine

end
section
open PySem PySem.W PySem.Calls PyProof.Rows PySem.Spec
set_option Elab.async false
set_option maxRecDepth 100000
set_option maxHeartbeats 8000000
set_option linter.unusedVariables false
namespace Mine
section
variable {σ : Sig} {A : Around} {E : Value → Shared → Prop} {L : Addr} {m : Know} {Fs : List (Addr × Know)} {M M' : Mut} {X : Led} {s : Shared} {k : Nat}
theorem w_red_of (hK : KK σ) {name qual : PySem.Str} {pms : Arguments} {sc : Scope} {dV kV doc pm cdv ct oc : Value} {an od : Option Addr} {osl : Array (Option Value)} {e1 e2 c t rv : Expr} {p1 p2 p3 p4 p5 p6 p7 p8 p9 p10 : Pos} {j : Nat}
    (h1 : σ.K.lookup 448 = some ⟨oc, od, .func (fnOf name qual pms [.Assign [.Name "a" p1] e1 p2, .Assign [.Name "b" p3] e2 p4, .While c [.Assign [.Tuple [.Name "a" p5, .Name "b" p6] j p7] t p8] [] p9, .Return (some rv) p10] sc dV kV doc pm an cdv ct), osl⟩) (h2 : codeIn σ.K cdv qual = true) (h3 : defOk ["n", "d"] sc = true) (h4 : sc.names.length = 5) (l1 : sc.names[2]? = some (Str.ofString "a", NameKind.local)) (l2 : sc.names[3]? = some (Str.ofString "b", NameKind.local)) (c1 : compE 60 (cxOf G0 sc.names []) e1 = .bi .abs (.var 0)) (c2 : compE 60 (cxOf G0 sc.names []) e2 = .var 1) (c3 : compE 60 (cxOf G0 sc.names []) c = .cmp .Gt (.var 3) (.lit (.int 0))) (c4 : compE 60 (cxOf G0 sc.names []) t = .tup [.var 3, .bin .Mod (.var 2) (.var 3)]) (c5 : compE 60 (cxOf G0 sc.names []) rv = .tup [.bin .FloorDiv (.var 0) (.var 2), .bin .FloorDiv (.var 1) (.var 2)]) (i1 : isVar (cxOf G0 sc.names []) "a" = some 2) (i2 : isVar (cxOf G0 sc.names []) "b" = some 3) (w1 : (∀ env, swapsWith e1 (some (.Name "a" p1)) p2.line env = pure false)) (w2 : (∀ env, swapsWith e2 (some (.Name "b" p3)) p4.line env = pure false)) (w3 : (∀ env, swapsWithSole [.Tuple [.Name "a" p5, .Name "b" p6] j p7] t p8.line env = pure false)) (w4 : (∀ env : Env, (env.blockKind != .function) = false → env.kindOf "a" = some .local → env.kindOf "b" = some .local → swappedStores [.Tuple [.Name "a" p5, .Name "b" p6] j p7] t env = pure (some [Str.ofString "a", Str.ofString "b"]))) (hb : ∀ s v0 v1, BindsTo s (fnOf name qual pms [.Assign [.Name "a" p1] e1 p2, .Assign [.Name "b" p3] e2 p4, .While c [.Assign [.Tuple [.Name "a" p5, .Name "b" p6] j p7] t p8] [] p9, .Return (some rv) p10] sc dV kV doc pm an cdv ct) ⟨[v0, v1], []⟩ [("n", v0), ("d", v1)]) {Q : PV → Prop} {R : PySem.Str → Prop} {a d : Int} (hd0 : 0 < d) (hd4 : d ≤ 4) (h : ∀ x y : Int, Q (.tup [.int x, .int y])) : Ct σ (k + 1) 448 [.int a, .int d] Q R := by
  have D := defOk_says h3
  intro r A E L m Fs M X s vs Q' S hr hR hvs HQ HX
  refine hvs.inv fun v0 vs' r0 hvs' => ?_
  refine hvs'.inv fun v1 vs' r1 hvs' => ?_
  obtain rfl := hvs'.inv0
  refine r_callC D S hR h1 h2 (hb s v0 v1) rfl fun env L' cs s' V hfr hk hcs hcn hap hcM S' hR' => ?_
  have E0 := entry (G := G0) (own := []) D hcs hcn hcM (.cons r0 (.cons r1 .nil)) rfl hr S'
  have T := cxs_of (G := G0) (own := []) D hcs hcn hap
  have hG : GOK σ (cxOf G0 sc.names []) := gok_of (glob_ok hK)
  obtain ⟨hv, ht⟩ := ok_all (kok hK) 60
  have w4 := w4 env (by unfold Env.blockKind; rw [V.kind]; rfl) (V.look _ (List.mem_of_getElem? l1)) (V.look _ (List.mem_of_getElem? l2))
  rw [h4] at E0
  refine x_assign (st_asg (px := p1) (pos := p1) hv T hG V hR' E0 S.mnd i1 (Q := fun ρ => ∃ x : Int, ρ = [.v (.int a), .v (.int d), .v (.int x), .u, .u]) (R := fun _ => False) ?_ (fun O1 m1 M1 X1 s1 ρ1 hX1 S1 hq1 => ?_) fun v msg m' s' X' _ _ hm => hm.elim) (w1 env)
  · rw [c1]; exact ⟨_, rfl⟩
  obtain ⟨x0, rfl⟩ := hq1
  refine x_assign (st_asg (px := p1) (pos := p1) hv T hG V hR' S1 S.mnd i2 (Q := fun ρ => ρ = [.v (.int a), .v (.int d), .v (.int x0), .v (.int d), .u]) (R := fun _ => False) ?_ (fun O2 m2 M2 X2 s2 ρ2 hX2 S2 hq2 => ?_) fun v msg m' s' X' _ _ hm => hm.elim) (w2 env)
  · rw [c2]; exact rfl
  subst hq2
  refine wpAny_execs_cons (wpAny_absurd (wpAny_While (codeAny_whileLoop (fun n s => ∃ (x y : Int) (O : Own) (m₃ : Know) (M₃ : Mut) (X₃ : Led), Sub X X₃ ∧ RelS σ r (cxOf G0 sc.names []) cs [.v (.int a), .v (.int d), .v (.int x), .v (.int y), .u] O L' m₃ ((L, m) :: Fs) M₃ M X₃ s ∧
      0 ≤ y ∧ y ≤ 4 ∧ (y = 0 → 0 < x ∧ x ≤ 4) ∧ n = y.toNat) (fun n s hI => ?_) d.toNat ⟨x0, d, O2, m2, M2, X2, hX1.trans hX2, S2, by omega, by omega, fun q => by omega, rfl⟩)))
  obtain ⟨x, y, O, m3, M3, X3, hX3, S3, hy0, hy4, hyx, hn⟩ := hI
  refine wpAny_absurd (ht hG V hR' (S3.rel T) (Q := fun b => b = decide (0 < y)) (R := fun _ => False) ?_ (fun b s4 X4 hX4 S4 hb => ?_) fun v msg s' X' _ _ hm => hm.elim)
  · rw [c3]; exact rfl
  have S4' := S3.grow hX4 S4.st
  subst hb
  by_cases hy : 0 < y
  · rw [decide_eq_true hy, if_pos rfl]
    refine wpAny_absurd (wpAny_execs_cons (Assign_Tuple_swapped (hv hG V hR' (S4'.rel T) (Q := fun p => p = .tup [.int y, .int (x.fmod y)]) (R := fun _ => False) ?_ (fun w p s5 X5 hX5 S5 hw hp => ?_) fun v msg s' X' _ _ hm => hm.elim) (w3 env) w4))
    · rw [c4]; exact ⟨by omega, Nat.le_of_ble_eq_true rfl, rfl⟩
    have S5' := S4'.grow hX5 S5.st
    subst hp
    refine rep_tup hw fun ta tvs htm hts => ?_
    revert htm; refine hts.inv fun u1 tvs' q1 hts => ?_
    refine hts.inv fun u2 tvs' q2 hts htm => ?_
    obtain rfl := hts.inv0
    refine unpackItems_tuple (items := #[u1, u2]) hR'.hd ⟨_, S5'.st.fz _ htm, rfl, 0, rfl⟩ fun h' he => ?_
    have S6 := S5'.grow (Sub.refl _) (S5'.st.grow (s' := { s5 with heap := h' }) fun b o e => he b o (Nat.ne_of_lt (Heap.lt_size e)) e)
    refine assignInOrder_cons (bindName_ (S6.store T V i2 (b := .v (.int (x.fmod y))) q2 fun m7 M7 s7 S7 => ?_))
    refine assignInOrder_cons (bindName_ (S7.store T V i1 (b := .v (.int y)) q1 fun m8 M8 s8 S8 => ?_))
    refine assignInOrder_nil (wpAny_execs_nil ?_)
    have f0 := Int.fmod_nonneg_of_pos x hy
    have f1 := Int.fmod_lt_of_pos x hy
    exact ⟨(x.fmod y).toNat, by omega, y, x.fmod y, _, m8, M8, X5, hX3.trans (hX4.trans hX5), S8, f0, by omega, fun q => by omega, rfl⟩
  · rw [decide_eq_false hy, if_neg (by decide)]
    have hy' : y = 0 := by omega
    obtain ⟨x1, x4⟩ := hyx hy'
    refine wpAny_execs_nil ?_
    refine x_ret (hv hG V hR' (S4'.rel T) (Q := fun p => ∃ u w : Int, p = .tup [.int u, .int w]) (R := fun _ => False) ?_ (fun v p s5 X5 hX5 S5 hv' hp => ?_) fun v msg s' X' _ _ hm => hm.elim)
    · rw [c5]; exact ⟨by omega, by omega, by omega, by omega, Nat.le_of_ble_eq_true rfl, _, _, rfl⟩
    obtain ⟨u, w, rfl⟩ := hp
    exact HQ _ _ _ _ (hX3.trans (hX4.trans hX5)) (((S4'.grow hX5 S5.st).st.subM S4'.keep S.mnd).pop) hv' (h u w)
theorem w_red (hK : KK σ) {Q : PV → Prop} {R : PySem.Str → Prop} {a d : Int} (hd0 : 0 < d) (hd4 : d ≤ 4) (h : ∀ x y : Int, Q (.tup [.int x, .int y])) : Ct σ (k + 1) 448 [.int a, .int d] Q R :=
  w_red_of hK (by rw [hK]; exact at_448 _) (by rw [hK]; kernel_rfl) (by kernel_rfl) (by kernel_rfl) (by kernel_rfl) (by kernel_rfl) (by kernel_rfl) (by kernel_rfl) (by kernel_rfl) (by kernel_rfl) (by kernel_rfl) (by kernel_rfl) (by kernel_rfl) (by intro _; rfl) (by intro _; rfl) (by intro _; rfl) (by intro env q1 q2 q3; unfold swappedStores; simp only [q1, List.filterMap, q2, q3]; rfl) (fun s v0 v1 => BindsTo.of_eq rfl) hd0 hd4 h
end
end Mine

end
section
open PySem PySem.W PySem.Calls PyProof.Rows PySem.Spec
set_option Elab.async false
set_option maxRecDepth 100000
set_option linter.unusedVariables false
namespace Mine
section
variable (C : Nat → Addr → List PV → (PV → Prop) → (PySem.Str → Prop) → Prop) (k : Nat) (ρ : List Bd) (R : PySem.Str → Prop)
@[simp] noncomputable def kBin2 (op : Operator) (p : PV) (Q : PV → Prop) (q : PV) : Prop := binP op p q Q
@[simp] noncomputable def kBin1 (op : Operator) (b : IE) (Q : PV → Prop) (p : PV) : Prop := wpE C k ρ b (kBin2 op p Q) R
@[simp] noncomputable def kNeg (Q : PV → Prop) (p : PV) : Prop := negP p Q
@[simp] noncomputable def kB (Q : PV → Prop) (b : Bool) : Prop := Q (.bool b)
@[simp] noncomputable def kNB (Q : PV → Prop) (b : Bool) : Prop := Q (.bool !b)
@[simp] noncomputable def kNot (Q : PV → Prop) (p : PV) : Prop := truP p (kNB Q)
@[simp] noncomputable def kCmp2 (op : CmpOp) (p : PV) (Q : Bool → Prop) (q : PV) : Prop := cmpP op p q Q
@[simp] noncomputable def kCmp1 (op : CmpOp) (b : IE) (Q : Bool → Prop) (p : PV) : Prop := wpE C k ρ b (kCmp2 op p Q) R
@[simp] noncomputable def kInv (op : CmpOp) (i : Nat) (Q : Bool → Prop) (p : PV) : Prop := invP op ρ[i]? p Q
noncomputable def kAnd2 (b : IE) (Q : PV → Prop) (p : PV) (t : Bool) : Prop := (t = true → wpE C k ρ b Q R) ∧ (t = false → Q p)
@[simp] noncomputable def kAnd1 (b : IE) (Q : PV → Prop) (p : PV) : Prop := truP p (kAnd2 C k ρ R b Q p)
noncomputable def kOr2 (b : IE) (Q : PV → Prop) (p : PV) (t : Bool) : Prop := (t = true → Q p) ∧ (t = false → wpE C k ρ b Q R)
@[simp] noncomputable def kOr1 (b : IE) (Q : PV → Prop) (p : PV) : Prop := truP p (kOr2 C k ρ R b Q p)
noncomputable def kIte (a b : IE) (Q : PV → Prop) (t : Bool) : Prop := (t = true → wpE C k ρ a Q R) ∧ (t = false → wpE C k ρ b Q R)
@[simp] noncomputable def kList (Q : PV → Prop) (ps : List PV) : Prop := ps.length ≤ 100 ∧ Q (.list ps)
@[simp] noncomputable def kTup (Q : PV → Prop) (ps : List PV) : Prop := ps.length ≤ 100 ∧ Q (.tup ps)
@[simp] noncomputable def kDict1 (x : PySem.Str) (Q : PV → Prop) (p : PV) : Prop := Q (.sd [x] [p])
@[simp] noncomputable def kIdx2 (p : PV) (Q : PV → Prop) (q : PV) : Prop := idxP p q Q
@[simp] noncomputable def kIdx1 (b : IE) (Q : PV → Prop) (p : PV) : Prop := wpE C k ρ b (kIdx2 p Q) R
@[simp] noncomputable def kFld (f : Fld) (Q : PV → Prop) (p : PV) : Prop := fldP f p Q
@[simp] noncomputable def kGetm2 (p : PV) (Q : PV → Prop) (q : PV) : Prop := getmP p q Q
@[simp] noncomputable def kGetm1 (b : IE) (Q : PV → Prop) (p : PV) : Prop := isSd p ∧ wpE C k ρ b (kGetm2 p Q) R
@[simp] noncomputable def kLidx2 (p : PV) (Q : PV → Prop) (q : PV) : Prop := lidxP p q Q
@[simp] noncomputable def kLidx1 (b : IE) (Q : PV → Prop) (p : PV) : Prop := isLst p ∧ wpE C k ρ b (kLidx2 p Q) R
@[simp] noncomputable def kCall (f : Addr) (Q : PV → Prop) (ps : List PV) : Prop := C k f ps Q R
@[simp] noncomputable def kBi (b : Bi) (Q : PV → Prop) (p : PV) : Prop := biP b p Q
@[simp] noncomputable def kMax2 (p : PV) (Q : PV → Prop) (q : PV) : Prop := max2P p q Q
@[simp] noncomputable def kMax1 (b : IE) (Q : PV → Prop) (p : PV) : Prop := wpE C k ρ b (kMax2 p Q) R
@[simp] noncomputable def kFst (x y : PySem.Str) (Q : PV → Prop) (p : PV) : Prop := fstP x y p Q
@[simp] noncomputable def kSome (K : Option PV → Prop) (y : PV) : Prop := K (some y)
noncomputable def kElt (elt : IE) (v : PV) (K : Option PV → Prop) (t : Bool) : Prop := (t = true → wpE C k (ρ ++ [.v v]) elt (kSome K) fun _ => False) ∧ (t = false → K none)
@[simp] noncomputable def kLcB (elt : IE) (cond : Option IE) (v : PV) (K : Option PV → Prop) : Prop := wpO C k (ρ ++ [.v v]) cond (kElt C k ρ elt v K) fun _ => False
@[simp] noncomputable def kLcQ (Q : PV → Prop) (ys : List PV) : Prop := Q (.list ys)
noncomputable def kLc (elt : IE) (cond : Option IE) (Q : PV → Prop) (p : PV) : Prop := match iterP p with
  | some l => l.length ≤ 2 ^ 20 ∧ wpLc (kLcB C k ρ elt cond) l [] (kLcQ Q)
  | none => False
@[simp] noncomputable def kDcE (e : IE) (v : PV) (K : PV → Prop) : Prop := wpE C k (ρ ++ [.v v]) e K fun _ => False
@[simp] noncomputable def kDcQ (Q : PV → Prop) (r : List PySem.Str × List PV) : Prop := Q (.sd r.1 r.2)
noncomputable def kDc (key val : IE) (Q : PV → Prop) (p : PV) : Prop := match iterP p with
  | some l => l.length ≤ 100 ∧ wpDc (kDcE C k ρ key) (kDcE C k ρ val) l ([], []) (kDcQ Q)
  | none => False
@[simp] noncomputable def kCons1 (p : PV) (Q : List PV → Prop) (ps : List PV) : Prop := Q (p :: ps)
@[simp] noncomputable def kCons (es : List IE) (Q : List PV → Prop) (p : PV) : Prop := wpEs C k ρ es (kCons1 p Q) R
@[simp] noncomputable def kNQ (Q : Bool → Prop) (t : Bool) : Prop := Q (!t)
noncomputable def kTand (b : IE) (Q : Bool → Prop) (t : Bool) : Prop := (t = true → wpT C k ρ b Q R) ∧ (t = false → Q false)
noncomputable def kTor (b : IE) (Q : Bool → Prop) (t : Bool) : Prop := (t = true → Q true) ∧ (t = false → wpT C k ρ b Q R)
@[simp] noncomputable def kTru (Q : Bool → Prop) (p : PV) : Prop := truP p Q
@[simp] noncomputable def kTbi (b : Bi) (Q : Bool → Prop) (p : PV) : Prop := biP b p (kTru Q)
variable (Q : PV → Prop) (T : Bool → Prop)
@[simp] theorem we_var {i} : wpE C k ρ (.var i) Q R = (match ρ[i]? with | some (.v p) => Q p | _ => False) := rfl
@[simp] theorem we_lit {p} : wpE C k ρ (.lit p) Q R = Q p := rfl
@[simp] theorem we_bin {op a b} : wpE C k ρ (.bin op a b) Q R = wpE C k ρ a (kBin1 C k ρ R op b Q) R := rfl
@[simp] theorem we_neg {a} : wpE C k ρ (.neg a) Q R = wpE C k ρ a (kNeg Q) R := rfl
@[simp] theorem we_not {a} : wpE C k ρ (.not a) Q R = wpE C k ρ a (kNot Q) R := rfl
@[simp] theorem we_cmp {op a b} : wpE C k ρ (.cmp op a b) Q R = wpE C k ρ a (kCmp1 C k ρ R op b (kB Q)) R := rfl
@[simp] theorem we_inv {op a i} : wpE C k ρ (.inv op a i) Q R = wpE C k ρ a (kInv ρ op i (kB Q)) R := rfl
@[simp] theorem we_and {a b} : wpE C k ρ (.and a b) Q R = wpE C k ρ a (kAnd1 C k ρ R b Q) R := rfl
@[simp] theorem we_or {a b} : wpE C k ρ (.or a b) Q R = wpE C k ρ a (kOr1 C k ρ R b Q) R := rfl
@[simp] theorem we_ite {c a b} : wpE C k ρ (.ite c a b) Q R = wpT C k ρ c (kIte C k ρ R a b Q) R := rfl
@[simp] theorem we_list {es} : wpE C k ρ (.list es) Q R = wpEs C k ρ es (kList Q) R := rfl
@[simp] theorem we_tup {es} : wpE C k ρ (.tup es) Q R = wpEs C k ρ es (kTup Q) R := rfl
@[simp] theorem we_dict0 : wpE C k ρ .dict0 Q R = Q (.sd [] []) := rfl
@[simp] theorem we_dict1 {x e} : wpE C k ρ (.dict1 x e) Q R = wpE C k ρ e (kDict1 x Q) R := rfl
@[simp] theorem we_idx {a b} : wpE C k ρ (.idx a b) Q R = wpE C k ρ a (kIdx1 C k ρ R b Q) R := rfl
@[simp] theorem we_fld {f a} : wpE C k ρ (.fld f a) Q R = wpE C k ρ a (kFld f Q) R := rfl
@[simp] theorem we_getm {a b} : wpE C k ρ (.getm a b) Q R = wpE C k ρ a (kGetm1 C k ρ R b Q) R := rfl
@[simp] theorem we_lidx {a b} : wpE C k ρ (.lidx a b) Q R = wpE C k ρ a (kLidx1 C k ρ R b Q) R := rfl
@[simp] theorem we_call {f es} : wpE C k ρ (.call f es) Q R = wpEs C k ρ es (kCall C k R f Q) R := rfl
@[simp] theorem we_bi {b a} : wpE C k ρ (.bi b a) Q R = wpE C k ρ a (kBi b Q) R := rfl
@[simp] theorem we_max2 {a b} : wpE C k ρ (.max2 a b) Q R = wpE C k ρ a (kMax1 C k ρ R b Q) R := rfl
@[simp] theorem we_fst {x e y} : wpE C k ρ (.fst x e y) Q R = (x.length ≤ 1000 ∧ wpE C k ρ e (kFst x y Q) R) := rfl
@[simp] theorem we_lc {d elt it cond} : wpE C k ρ (.lc d elt it cond) Q R = (ρ.length = d ∧ wpE C k ρ it (kLc C k ρ elt cond Q) R) := rfl
@[simp] theorem we_dc {d key val it} : wpE C k ρ (.dc d key val it) Q R = (ρ.length = d ∧ wpE C k ρ it (kDc C k ρ key val Q) R) := rfl
@[simp] theorem wl_nil {Q : List PV → Prop} : wpEs C k ρ [] Q R = Q [] := rfl
@[simp] theorem wl_cons {e es} {Q : List PV → Prop} : wpEs C k ρ (e :: es) Q R = wpE C k ρ e (kCons C k ρ R es Q) R := rfl
@[simp] theorem wt_not {a} : wpT C k ρ (.not a) T R = wpT C k ρ a (kNQ T) R := rfl
@[simp] theorem wt_and {a b} : wpT C k ρ (.and a b) T R = wpT C k ρ a (kTand C k ρ R b T) R := rfl
@[simp] theorem wt_or {a b} : wpT C k ρ (.or a b) T R = wpT C k ρ a (kTor C k ρ R b T) R := rfl
@[simp] theorem wt_cmp {op a b} : wpT C k ρ (.cmp op a b) T R = wpE C k ρ a (kCmp1 C k ρ R op b T) R := rfl
@[simp] theorem wt_inv {op a i} : wpT C k ρ (.inv op a i) T R = wpE C k ρ a (kInv ρ op i T) R := rfl
@[simp] theorem wt_var {i} : wpT C k ρ (.var i) T R = (match ρ[i]? with | some (.v p) => truP p T | _ => False) := rfl
@[simp] theorem wt_call {f es} : wpT C k ρ (.call f es) T R = wpEs C k ρ es (kCall C k R f (kTru T)) R := rfl
@[simp] theorem wt_bi {b a} : wpT C k ρ (.bi b a) T R = wpE C k ρ a (kTbi b T) R := rfl
@[simp] theorem wo_none : wpO C k ρ none T R = T true := rfl
@[simp] theorem wo_some {c} : wpO C k ρ (some c) T R = wpT C k ρ c T R := rfl
/-- statements -/
noncomputable def kThen (ss : List IS) (Q : Fl → List Bd → Prop) : Fl → List Bd → Prop := seqF Q fun ρ' => wpSs C k ρ' ss Q R
@[simp] noncomputable def kAsg (i : Nat) (Q : Fl → List Bd → Prop) (p : PV) : Prop := Q .next (ρ.set i (.v p))
@[simp] noncomputable def kNx (Q : Fl → List Bd → Prop) (ρ : List Bd) : Prop := Q .next ρ
noncomputable def kNewV2 (i : Nat) (p : PV) (Q : Fl → List Bd → Prop) (q : PV) : Prop := match p with | .str x => 3 ≤ k ∧ Q .next (ρ.set i (.ov x q none)) | _ => False
@[simp] noncomputable def kNewV1 (i : Nat) (b : IE) (Q : Fl → List Bd → Prop) (p : PV) : Prop := wpE C k ρ b (kNewV2 k ρ i p Q) R
@[simp] noncomputable def kApp (i : Nat) (Q : Fl → List Bd → Prop) (p : PV) : Prop := appP i ρ p (kNx Q)
@[simp] noncomputable def kSeti2 (i : Nat) (p : PV) (Q : Fl → List Bd → Prop) (q : PV) : Prop := setiP i ρ q p (kNx Q)
@[simp] noncomputable def kSeti1 (i : Nat) (a : IE) (Q : Fl → List Bd → Prop) (p : PV) : Prop := wpE C k ρ a (kSeti2 ρ i p Q) R
noncomputable def kSite (t f : List IS) (Q : Fl → List Bd → Prop) (b : Bool) : Prop := (b = true → wpSs C k ρ t Q R) ∧ (b = false → wpSs C k ρ f Q R)
@[simp] noncomputable def kRet (Q : Fl → List Bd → Prop) (p : PV) : Prop := Q (.ret p) ρ
@[simp] noncomputable def kBody (body : List IS) (ρ : List Bd) (Q : Fl → List Bd → Prop) : Prop := wpSs C k ρ body Q fun _ => False
noncomputable def kFor (i : Nat) (body : List IS) (Q : Fl → List Bd → Prop) (p : PV) : Prop := match iterP p with
  | some l => wpFor (kBody C k body) i l ρ Q
  | none => False
noncomputable def kRaise (p : PV) : Prop := match p with | .str x => 3 ≤ k ∧ R x | _ => False
@[simp] noncomputable def kKeepX (i : Nat) (Q : Fl → List Bd → Prop) (x : PySem.Str) : Prop := Q .next (ρ.set i (.v (.str x)))
@[simp] noncomputable def kNamed (i : Nat) (Q : Fl → List Bd → Prop) (p : PV) : Prop := namedP i ρ p (kNx Q)
@[simp] noncomputable def kSetA (i : Nat) (x : PySem.Str) (Q : Fl → List Bd → Prop) (p : PV) : Prop := setAP i ρ x p (kNx Q)
@[simp] noncomputable def kSetAI (i : Nat) (x : PySem.Str) (Q : Fl → List Bd → Prop) (p : PV) : Prop := setAIP i ρ x p (kNx Q)
theorem bt {A B : Prop} : ((true = true → A) ∧ (true = false → B)) = A := propext ⟨fun h => h.1 rfl, fun h => ⟨fun _ => h, fun e => nomatch e⟩⟩
theorem bf {A B : Prop} : ((false = true → A) ∧ (false = false → B)) = B := propext ⟨fun h => h.2 rfl, fun h => ⟨fun e => (nomatch e), fun _ => h⟩⟩
@[simp] theorem kAnd2_t {b Q p} : kAnd2 C k ρ R b Q p true = wpE C k ρ b Q R := bt
@[simp] theorem kAnd2_f {b Q p} : kAnd2 C k ρ R b Q p false = Q p := bf
@[simp] theorem kOr2_t {b Q p} : kOr2 C k ρ R b Q p true = Q p := bt
@[simp] theorem kOr2_f {b Q p} : kOr2 C k ρ R b Q p false = wpE C k ρ b Q R := bf
@[simp] theorem kIte_t {a b Q} : kIte C k ρ R a b Q true = wpE C k ρ a Q R := bt
@[simp] theorem kIte_f {a b Q} : kIte C k ρ R a b Q false = wpE C k ρ b Q R := bf
@[simp] theorem kElt_t {e v K} : kElt C k ρ e v K true = wpE C k (ρ ++ [.v v]) e (kSome K) fun _ => False := bt
@[simp] theorem kElt_f {e v K} : kElt C k ρ e v K false = K none := bf
@[simp] theorem kTand_t {b Q} : kTand C k ρ R b Q true = wpT C k ρ b Q R := bt
@[simp] theorem kTand_f {b Q} : kTand C k ρ R b Q false = Q false := bf
@[simp] theorem kTor_t {b Q} : kTor C k ρ R b Q true = Q true := bt
@[simp] theorem kTor_f {b Q} : kTor C k ρ R b Q false = wpT C k ρ b Q R := bf
@[simp] theorem kSite_t {t f Q} : kSite C k ρ R t f Q true = wpSs C k ρ t Q R := bt
@[simp] theorem kSite_f {t f Q} : kSite C k ρ R t f Q false = wpSs C k ρ f Q R := bf
@[simp low] theorem kAnd2_d {b Q p t} : kAnd2 C k ρ R b Q p t = ((t = true → wpE C k ρ b Q R) ∧ (t = false → Q p)) := rfl
@[simp low] theorem kOr2_d {b Q p t} : kOr2 C k ρ R b Q p t = ((t = true → Q p) ∧ (t = false → wpE C k ρ b Q R)) := rfl
@[simp low] theorem kIte_d {a b Q t} : kIte C k ρ R a b Q t = ((t = true → wpE C k ρ a Q R) ∧ (t = false → wpE C k ρ b Q R)) := rfl
@[simp low] theorem kElt_d {e v K t} : kElt C k ρ e v K t = ((t = true → wpE C k (ρ ++ [.v v]) e (kSome K) fun _ => False) ∧ (t = false → K none)) := rfl
@[simp low] theorem kTand_d {b Q t} : kTand C k ρ R b Q t = ((t = true → wpT C k ρ b Q R) ∧ (t = false → Q false)) := rfl
@[simp low] theorem kTor_d {b Q t} : kTor C k ρ R b Q t = ((t = true → Q true) ∧ (t = false → wpT C k ρ b Q R)) := rfl
@[simp low] theorem kSite_d {t f Q b} : kSite C k ρ R t f Q b = ((b = true → wpSs C k ρ t Q R) ∧ (b = false → wpSs C k ρ f Q R)) := rfl
variable (S : Fl → List Bd → Prop)
@[simp] theorem ws_asg {i e} : wpS C k ρ (.asg i e) S R = wpE C k ρ e (kAsg ρ i S) R := rfl
@[simp] theorem ws_newL {i} : wpS C k ρ (.newL i) S R = S .next (ρ.set i (.ol [])) := rfl
@[simp] theorem ws_newD {i} : wpS C k ρ (.newD i) S R = S .next (ρ.set i (.os [] [])) := rfl
@[simp] theorem ws_newV {i a b} : wpS C k ρ (.newV i a b) S R = wpE C k ρ a (kNewV1 C k ρ R i b S) R := rfl
@[simp] theorem ws_app {i e} : wpS C k ρ (.app i e) S R = (isOl ρ[i]? ∧ wpE C k ρ e (kApp ρ i S) R) := rfl
@[simp] theorem ws_seti {i a e} : wpS C k ρ (.seti i a e) S R = (isOd ρ[i]? ∧ wpE C k ρ e (kSeti1 C k ρ R i a S) R) := rfl
@[simp] theorem ws_frz {i} : wpS C k ρ (.frz i) S R = S .next (match ρ[i]? with | some b => ρ.set i (frzB b) | none => ρ) := rfl
@[simp] theorem ws_ite {c t f} : wpS C k ρ (.ite c t f) S R = wpT C k ρ c (kSite C k ρ R t f S) R := rfl
@[simp] theorem ws_ret {e} : wpS C k ρ (.ret e) S R = wpE C k ρ e (kRet ρ S) R := rfl
@[simp] theorem ws_cont : wpS C k ρ .cont S R = S .cont ρ := rfl
@[simp] theorem ws_for {i it body} : wpS C k ρ (.for i it body) S R = wpE C k ρ it (kFor C k ρ i body S) R := rfl
@[simp] theorem ws_raise {e} : wpS C k ρ (.raise e) S R = wpE C k ρ e (kRaise k R) R := rfl
@[simp] theorem ws_keep {i e} : wpS C k ρ (.keep i e) S R = (isTab ρ[0]? ∧ 3 ≤ k ∧ wpE C (k - 2) ρ e (kAsg ρ i S) (kKeepX ρ i S)) := rfl
@[simp] theorem ws_named {i e} : wpS C k ρ (.named i e) S R = (5 ≤ k ∧ isOv ρ[i]? ∧ wpE C k ρ e (kNamed ρ i S) R) := rfl
@[simp] theorem ws_setA {i x e} : wpS C k ρ (.setA i x e) S R = (isOv ρ[i]? ∧ wpE C k ρ e (kSetA ρ i x S) R) := rfl
@[simp] theorem ws_ensA {i} : wpS C k ρ (.ensA i) S R = ensAP i ρ (kNx S) := rfl
@[simp] theorem ws_setAI {i x e} : wpS C k ρ (.setAI i x e) S R = (isOv ρ[i]? ∧ wpE C k ρ e (kSetAI ρ i x S) R) := rfl
@[simp] theorem wss_nil : wpSs C k ρ [] S R = S .next ρ := rfl
@[simp] theorem wss_cons {s ss} : wpSs C k ρ (s :: ss) S R = wpS C k ρ s (kThen C k R ss S) R := rfl
@[simp] theorem then_next {ss} : kThen C k R ss S .next ρ = wpSs C k ρ ss S R := rfl
@[simp] theorem then_cont {ss} : kThen C k R ss S .cont ρ = S .cont ρ := rfl
@[simp] theorem then_ret {ss p} : kThen C k R ss S (.ret p) ρ = S (.ret p) ρ := rfl
end
section
variable {C : Nat → Addr → List PV → (PV → Prop) → (PySem.Str → Prop) → Prop} {k : Nat} {ρ : List Bd} {R : PySem.Str → Prop}
theorem iter_rng {n : Int} {P : List PV → Prop} : (match iterP (.rng n) with | some l => P l | none => False) = ((0 ≤ n ∧ n < 1099511627776) ∧ P (rngL n)) := by
  unfold iterP
  by_cases h : 0 ≤ n ∧ n < 1099511627776
  · simp only [h, and_self, true_and, Int.reducePow, if_true]
  · simp only [h, Int.reducePow, if_false, false_and]
@[simp] theorem lc_list {elt cond Q l} : kLc C k ρ elt cond Q (.list l) = (l.length ≤ 1048576 ∧ wpLc (kLcB C k ρ elt cond) l [] (kLcQ Q)) := rfl
@[simp] theorem lc_rng {elt cond Q} {n : Int} : kLc C k ρ elt cond Q (.rng n) = ((0 ≤ n ∧ n < 1099511627776) ∧ (rngL n).length ≤ 1048576 ∧ wpLc (kLcB C k ρ elt cond) (rngL n) [] (kLcQ Q)) := by
  unfold kLc; exact iter_rng
@[simp] theorem dc_sd {key val Q ks vs} : kDc C k ρ key val Q (.sd ks vs) = ((ks.map PV.str).length ≤ 100 ∧ wpDc (kDcE C k ρ key) (kDcE C k ρ val) (ks.map PV.str) ([], []) (kDcQ Q)) := rfl
@[simp] theorem for_list {i body Q l} : kFor C k ρ i body Q (.list l) = wpFor (kBody C k body) i l ρ Q := rfl
@[simp] theorem for_rng {i body Q} {n : Int} : kFor C k ρ i body Q (.rng n) = ((0 ≤ n ∧ n < 1099511627776) ∧ wpFor (kBody C k body) i (rngL n) ρ Q) := by
  unfold kFor; exact iter_rng
end
noncomputable def oI : Option Int → PV
  | none => .none | some i => .int i
noncomputable def oP : Option (Int × Int) → PV
  | none => .none | some (a, b) => .tup [.int a, .int b]
noncomputable def oS : Option PySem.Str → PV
  | none => .none | some x => .str x
noncomputable def oN : Option Nat → PV
  | none => .none | some n => .int n
@[simp] theorem tr_b {b} {Q : Bool → Prop} : truP (.bool b) Q = Q b := rfl
@[simp] theorem tr_n {Q : Bool → Prop} : truP .none Q = Q false := rfl
@[simp] theorem ng_i {i} {Q : PV → Prop} : negP (.int i) Q = Q (.int (-i)) := rfl
@[simp] theorem bn_ad {a b} {Q : PV → Prop} : binP .Add (.int a) (.int b) Q = Q (.int (a + b)) := rfl
@[simp] theorem bn_sb {a b} {Q : PV → Prop} : binP .Sub (.int a) (.int b) Q = Q (.int (a - b)) := rfl
@[simp] theorem bn_md {a b} {Q : PV → Prop} : binP .Mod (.int a) (.int b) Q = (b ≠ 0 ∧ Q (.int (a.fmod b))) := rfl
@[simp] theorem bn_fd {a b} {Q : PV → Prop} : binP .FloorDiv (.int a) (.int b) Q = (b ≠ 0 ∧ b.natAbs < 1073741824 ∧ Q (.int (a.fdiv b))) := rfl
@[simp] theorem gm_s {ks vs x} {Q : PV → Prop} : getmP (.sd ks vs) (.str x) Q = Q ((lookP ks vs x).getD .none) := rfl
@[simp] theorem sd_t {ks vs} : isSd (.sd ks vs) = True := rfl
@[simp] theorem ls_t {l} : isLst (.list l) = True := rfl
@[simp] theorem mx_i {a b} {Q : PV → Prop} : max2P (.int a) (.int b) Q = Q (.int (if a < b then b else a)) := rfl
@[simp] theorem ix_l {l i} {Q : PV → Prop} : idxP (.list l) (.int i) Q = (0 ≤ i ∧ i < 1099511627776 ∧ (match l[i.toNat]? with | some p => Q p | none => False)) := rfl
@[simp] theorem ix_t {l i} {Q : PV → Prop} : idxP (.tup l) (.int i) Q = (0 ≤ i ∧ i < 1099511627776 ∧ (match l[i.toNat]? with | some p => Q p | none => False)) := rfl
@[simp] theorem ix_s {ks vs x} {Q : PV → Prop} : idxP (.sd ks vs) (.str x) Q = (match lookP ks vs x with | some p => Q p | none => False) := rfl
@[simp] theorem iv_a {ks vs x} {Q : Bool → Prop} : invP .In (some (.os ks vs)) (.str x) Q = Q (decide (x ∈ ks)) := rfl
@[simp] theorem iv_b {ks vs x} {Q : Bool → Prop} : invP .NotIn (some (.os ks vs)) (.str x) Q = Q (!decide (x ∈ ks)) := rfl
@[simp] theorem iv_c {ks x} {Q : Bool → Prop} : invP .In (some (.oi ks)) (.int x) Q = Q (decide (x ∈ ks)) := rfl
@[simp] theorem iv_d {ks x} {Q : Bool → Prop} : invP .NotIn (some (.oi ks)) (.int x) Q = Q (!decide (x ∈ ks)) := rfl
@[simp] theorem iv_e {q p} {Q : Bool → Prop} : invP .In (some (.v q)) p Q = inP p q Q := rfl
@[simp] theorem iv_f {q p} {Q : Bool → Prop} : invP .NotIn (some (.v q)) p Q = inP p q fun b => Q (!b) := rfl
@[simp] theorem fs_s {x y z} {Q : PV → Prop} : fstP x y (.str z) Q = ((x ++ z ++ y).length ≤ 1000 ∧ Q (.str (x ++ z ++ y))) := rfl
@[simp] theorem b_ll {l} {Q : PV → Prop} : biP .len (.list l) Q = (l.length < 1099511627776 ∧ Q (.int l.length)) := rfl
@[simp] theorem b_ls {ks l} {Q : PV → Prop} : biP .len (.sd ks l) Q = (ks.length < 1099511627776 ∧ Q (.int ks.length)) := rfl
@[simp] theorem b_li {ks} {Q : PV → Prop} : biP .len (.idt ks) Q = (ks.length < 1099511627776 ∧ Q (.int ks.length)) := rfl
@[simp] theorem b_ab {a} {Q : PV → Prop} : biP .abs (.int a) Q = Q (.int (if a < 0 then -a else a)) := rfl
@[simp] theorem b_ch {i} {Q : PV → Prop} : biP .chr (.int i) Q = (0 ≤ i ∧ i ≤ 1114111 ∧ Q (.str ⟨#[i.toNat]⟩)) := rfl
@[simp] theorem b_tl {l} {Q : PV → Prop} : biP .list (.list l) Q = (l.length ≤ 1048576 ∧ Q (.list l)) := rfl
@[simp] theorem b_tr {n} {Q : PV → Prop} : biP .list (.rng n) Q = (0 ≤ n ∧ n ≤ 1048576 ∧ Q (.list (rngL n))) := rfl
@[simp] theorem b_rg {n} {Q : PV → Prop} : biP .range (.int n) Q = Q (.rng n) := rfl
@[simp] theorem b_mx {l} {Q : PV → Prop} : biP .max (.list l) Q = (∃ ns, l = ns.map PV.int ∧ ns ≠ [] ∧ ∀ a ∈ ns, (∀ b ∈ ns, b ≤ a) → Q (.int a)) := rfl
@[simp] theorem b_iv {a b c} {Q : PV → Prop} : biP .isVec (.vec a b c) Q = Q (.bool true) := rfl
@[simp] theorem b_s1 {x} {Q : PV → Prop} : biP .isStr (.str x) Q = Q (.bool true) := rfl
@[simp] theorem b_s2 {a b c} {Q : PV → Prop} : biP .isStr (.vec a b c) Q = Q (.bool false) := rfl
@[simp] theorem b_s3 {Q : PV → Prop} : biP .isStr .null Q = Q (.bool false) := rfl
@[simp] theorem b_s4 {l} {Q : PV → Prop} : biP .isStr (.tup l) Q = Q (.bool false) := rfl
@[simp] theorem cm_is {p} {Q : Bool → Prop} : cmpP .Is p .none Q = Q (isN p) := rfl
@[simp] theorem cm_in {p} {Q : Bool → Prop} : cmpP .IsNot p .none Q = Q (!isN p) := rfl
@[simp] theorem cm_eq {p q} {Q : Bool → Prop} : cmpP .Eq p q Q = eqP p q Q := rfl
@[simp] theorem cm_ne {p q} {Q : Bool → Prop} : cmpP .NotEq p q Q = eqP p q fun b => Q (!b) := rfl
@[simp] theorem cm_i {p q} {Q : Bool → Prop} : cmpP .In p q Q = inP p q Q := rfl
@[simp] theorem cm_ni {p q} {Q : Bool → Prop} : cmpP .NotIn p q Q = inP p q fun b => Q (!b) := rfl
@[simp] theorem cm_lt {a b} {Q : Bool → Prop} : cmpP .Lt (.int a) (.int b) Q = Q (decide (a < b)) := rfl
@[simp] theorem cm_le {a b} {Q : Bool → Prop} : cmpP .LtE (.int a) (.int b) Q = Q (decide (a ≤ b)) := rfl
@[simp] theorem cm_gt {a b} {Q : Bool → Prop} : cmpP .Gt (.int a) (.int b) Q = Q (decide (b < a)) := rfl
@[simp] theorem cm_ge {a b} {Q : Bool → Prop} : cmpP .GtE (.int a) (.int b) Q = Q (decide (b ≤ a)) := rfl
@[simp] theorem n_a : isN (.none) = true := rfl
@[simp] theorem n_b {b} : isN (.bool b) = false := rfl
@[simp] theorem n_c {i} : isN (.int i) = false := rfl
@[simp] theorem n_d {x} : isN (.str x) = false := rfl
@[simp] theorem n_e {l} : isN (.list l) = false := rfl
@[simp] theorem n_f {l} : isN (.tup l) = false := rfl
@[simp] theorem n_g {a b} : isN (.sd a b) = false := rfl
@[simp] theorem n_h {a} : isN (.idt a) = false := rfl
@[simp] theorem n_i {a b c} : isN (.vec a b c) = false := rfl
@[simp] theorem n_j : isN (.null) = false := rfl
@[simp] theorem n_k : isN (.missing) = false := rfl
@[simp] theorem n_l : isN (.row) = false := rfl
@[simp] theorem n_m {n} : isN (.rng n) = false := rfl
@[simp] theorem es_ii {a b} : eqS (.int a) (.int b) = some (a == b) := rfl
@[simp] theorem es_ss {a b} : eqS (.str a) (.str b) = some (a == b) := rfl
@[simp] theorem es_nn : eqS .none .none = some true := rfl
@[simp] theorem es_ni {a} : eqS .none (.int a) = some false := rfl
@[simp] theorem es_ns {a} : eqS .none (.str a) = some false := rfl
@[simp] theorem es_in {a} : eqS (.int a) .none = some false := rfl
@[simp] theorem es_sn {a} : eqS (.str a) .none = some false := rfl
@[simp] theorem ez_l {l q} : eqS (.list l) q = none := rfl
@[simp] theorem ez_t {l q} : eqS (.tup l) q = none := rfl
@[simp] theorem ez_b {b q} : eqS (.bool b) q = none := rfl
@[simp] theorem ez_d {a b q} : eqS (.sd a b) q = none := rfl
@[simp] theorem ez_v {a b c q} : eqS (.vec a b c) q = none := rfl
@[simp] theorem ol_t {l} : isOl (some (.ol l)) = True := rfl
@[simp] theorem ov_t {a b c} : isOv (some (.ov a b c)) = True := rfl
@[simp] theorem os_t {a b} : isOd (some (.os a b)) = True := rfl
@[simp] theorem oi_t {a} : isOd (some (.oi a)) = True := rfl
@[simp] theorem tb_t : isTab (some .tab) = True := rfl
@[simp] theorem fz_a {l} : frzB (.ol l) = .v (.list l) := rfl
@[simp] theorem fz_b {ks vs} : frzB (.os ks vs) = .v (.sd ks vs) := rfl
@[simp] theorem fz_c {ks} : frzB (.oi ks) = .v (.idt ks) := rfl
@[simp] theorem fz_d {k it} : frzB (.ov k it none) = .v (.vec k it .none) := rfl
@[simp] theorem fz_e {k it ks vs} : frzB (.ov k it (some (ks, vs))) = .v (.vec k it (.sd ks vs)) := rfl
@[simp] theorem fz_f {p} : frzB (.v p) = .v p := rfl
@[simp] theorem fz_g : frzB (.u) = .u := rfl
@[simp] theorem fz_h : frzB (.tab) = .tab := rfl
@[simp] theorem ap_d {i ρ p} {Q : List Bd → Prop} : appP i ρ p Q = appM ρ[i]? i ρ p Q := rfl
@[simp] theorem ap_o {l i ρ p} {Q : List Bd → Prop} : appM (some (.ol l)) i ρ p Q = (l.length ≤ 1048576 ∧ Q (ρ.set i (.ol (l ++ [p])))) := rfl
@[simp] theorem si_d {i ρ q p} {Q : List Bd → Prop} : setiP i ρ q p Q = setiM ρ[i]? i ρ q p Q := rfl
@[simp] theorem si_s {ks vs i ρ x p} {Q : List Bd → Prop} : setiM (some (.os ks vs)) i ρ (.str x) p Q = (ks.length ≤ 1048576 ∧ Q (ρ.set i (.os (putP ks vs x p).1 (putP ks vs x p).2))) := rfl
@[simp] theorem si_0 {i ρ x p} {Q : List Bd → Prop} : setiM (some (.os [] [])) i ρ (.int x) p Q = Q (ρ.set i (.oi [x])) := rfl
@[simp] theorem si_i {ks i ρ x p} {Q : List Bd → Prop} : setiM (some (.oi ks)) i ρ (.int x) p Q = (ks.length ≤ 1048576 ∧ Q (ρ.set i (.oi (if x ∈ ks then ks else ks ++ [x])))) := rfl
@[simp] theorem nd_d {i ρ p} {Q : List Bd → Prop} : namedP i ρ p Q = namedM ρ[i]? i ρ p Q := rfl
@[simp] theorem nd_o {k it l i ρ} {Q : List Bd → Prop} : namedM (some (.ov k it none)) i ρ (.list l) Q = (l.length ≤ 1048576 ∧ Q (ρ.set i (.ov k it (some (["names"], [.vec "character" (.list l) .none]))))) := rfl
@[simp] theorem sA_d {i ρ k p} {Q : List Bd → Prop} : setAP i ρ k p Q = setAM ρ[i]? i ρ k p Q := rfl
@[simp] theorem sA_o {kd it a i ρ k p} {Q : List Bd → Prop} : setAM (some (.ov kd it a)) i ρ k p Q = Q (ρ.set i (.ov kd it (some ([k], [p])))) := rfl
@[simp] theorem eA_d {i ρ} {Q : List Bd → Prop} : ensAP i ρ Q = ensAM ρ[i]? i ρ Q := rfl
@[simp] theorem eA_0 {kd it i ρ} {Q : List Bd → Prop} : ensAM (some (.ov kd it none)) i ρ Q = Q (ρ.set i (.ov kd it (some ([], [])))) := rfl
@[simp] theorem eA_1 {kd it a i ρ} {Q : List Bd → Prop} : ensAM (some (.ov kd it (some a))) i ρ Q = Q ρ := rfl
@[simp] theorem sI_d {i ρ k p} {Q : List Bd → Prop} : setAIP i ρ k p Q = setAIM ρ[i]? i ρ k p Q := rfl
@[simp] theorem sI_o {kd it ks vs i ρ k p} {Q : List Bd → Prop} : setAIM (some (.ov kd it (some (ks, vs)))) i ρ k p Q = (ks.length ≤ 100 ∧ Q (ρ.set i (.ov kd it (some (putP ks vs k p))))) := rfl
noncomputable def wfK (B : List Bd → (Fl → List Bd → Prop) → Prop) (i : Nat) (l : List PV) (Q : Fl → List Bd → Prop) (fl : Fl) (ρ' : List Bd) : Prop := match fl with
  | .ret p => Q (.ret p) ρ'
  | _ => wpFor B i l ρ' Q
theorem wf_c {B v l i ρ} {Q : Fl → List Bd → Prop} : wpFor B i (v :: l) ρ Q = B (ρ.set i (.v v)) (wfK B i l Q) := rfl
@[simp] theorem wf_1 {B i l ρ} {Q : Fl → List Bd → Prop} : wfK B i l Q .next ρ = wpFor B i l ρ Q := rfl
@[simp] theorem wf_2 {B i l ρ} {Q : Fl → List Bd → Prop} : wfK B i l Q .cont ρ = wpFor B i l ρ Q := rfl
@[simp] theorem wf_3 {B i l p ρ} {Q : Fl → List Bd → Prop} : wfK B i l Q (.ret p) ρ = Q (.ret p) ρ := rfl
theorem wl_n {B acc} {Q : List PV → Prop} : wpLc B [] acc Q = Q acc := rfl
theorem wl_c {B v l acc} {Q : List PV → Prop} : wpLc B (v :: l) acc Q = B v fun o => match o with | some y => wpLc B l (acc ++ [y]) Q | none => wpLc B l acc Q := rfl
theorem wd_n {A B acc} {Q : List PySem.Str × List PV → Prop} : wpDc A B [] acc Q = Q acc := rfl
theorem wd_c {A B v l acc} {Q : List PySem.Str × List PV → Prop} : wpDc A B (v :: l) acc Q = A v fun k => match k with | .str x => B v fun y => wpDc A B l (putP acc.1 acc.2 x y) Q | _ => False := rfl
@[simp] theorem kv2 {k ρ i x Q q} : kNewV2 k ρ i (.str x) Q q = (3 ≤ k ∧ Q .next (ρ.set i (.ov x q none))) := rfl
@[simp] theorem krs {k x} {R : PySem.Str → Prop} : kRaise k R (.str x) = (3 ≤ k ∧ R x) := rfl
@[simp] theorem wf_n {B i ρ} {Q : Fl → List Bd → Prop} : wpFor B i [] ρ Q = Q .next ρ := rfl
@[simp] theorem fld_vk {k i a} {Q : PV → Prop} : fldP .kind (.vec k i a) Q = Q (.str k) := rfl
@[simp] theorem fld_vi {k i a} {Q : PV → Prop} : fldP .items (.vec k i a) Q = Q i := rfl
@[simp] theorem fld_va {k i a} {Q : PV → Prop} : fldP .attrs (.vec k i a) Q = Q a := rfl
@[simp] theorem fld_nk {Q : PV → Prop} : fldP .kind .null Q = Q (.str "NULL") := rfl
@[simp] theorem fld_na {Q : PV → Prop} : fldP .attrs .null Q = Q .none := rfl
@[simp] theorem fld_mk {Q : PV → Prop} : fldP .kind .missing Q = Q (.str "missing") := rfl
@[simp] theorem fld_ma {Q : PV → Prop} : fldP .attrs .missing Q = Q .none := rfl
@[simp] theorem eq_ii {a b : Int} {Q : Bool → Prop} : eqP (.int a) (.int b) Q = Q (a == b) := rfl
@[simp] theorem eq_ss {a b : PySem.Str} {Q : Bool → Prop} : eqP (.str a) (.str b) Q = Q (a == b) := rfl
@[simp] theorem eq_nn {Q : Bool → Prop} : eqP .none .none Q = Q true := rfl
@[simp] theorem eq_ni {b : Int} {Q : Bool → Prop} : eqP .none (.int b) Q = Q false := rfl
@[simp] theorem eq_ns {b : PySem.Str} {Q : Bool → Prop} : eqP .none (.str b) Q = Q false := rfl
@[simp] theorem eq_in {b : Int} {Q : Bool → Prop} : eqP (.int b) .none Q = Q false := rfl
@[simp] theorem eq_sn {b : PySem.Str} {Q : Bool → Prop} : eqP (.str b) .none Q = Q false := rfl
@[simp] theorem eq_l0 {l : List PV} {Q : Bool → Prop} : eqP (.list l) (.list []) Q = Q l.isEmpty := rfl
theorem eqP_self {l : List PV} {Q : Bool → Prop} (h : eqTop (.tup l) = true) (hq : Q true) : eqP (.tup l) (.tup l) Q := ⟨rfl, h, hq⟩
@[simp] theorem in_sd {x ks vs} {Q : Bool → Prop} : inP (.str x) (.sd ks vs) Q = Q (decide (x ∈ ks)) := rfl
@[simp] theorem in_idt {x ks} {Q : Bool → Prop} : inP (.int x) (.idt ks) Q = Q (decide (x ∈ ks)) := rfl
@[simp] theorem in_tup {x l} {Q : Bool → Prop} : inP (.str x) (.tup l) Q = ((∀ y ∈ l, (eqS y (.str x)).isSome) ∧ Q (l.any fun y => eqS y (.str x) == some true)) := rfl
theorem in_gen {α : Type} {f : α → PV} {p : PV} {a : α} (h1 : eqS (f a) p = some true) (h2 : ∀ y, y ≠ a → eqS (f y) p = some false) {l : List α} {inst : Decidable (a ∈ l)} {Q : Bool → Prop} : inP p (.list (l.map f)) Q = Q (@decide (a ∈ l) inst) := by
  have e : ((l.map f).any fun y => eqS y p == some true) = @decide (a ∈ l) inst := by
    rw [List.any_map, Bool.eq_iff_iff, List.any_eq_true, @decide_eq_true_iff _ inst]
    constructor
    · rintro ⟨x, hx, e⟩
      by_cases hxa : x = a
      · exact hxa ▸ hx
      · simp [h2 x hxa] at e
    · intro hx; exact ⟨a, hx, by simp [h1]⟩
  refine propext ⟨fun hq => ?_, fun hq => ⟨fun y hy => ?_, ?_⟩⟩
  · have := hq.2; rwa [e] at this
  · obtain ⟨x, _, rfl⟩ := List.mem_map.mp hy
    by_cases hxa : x = a
    · rw [hxa, h1]; rfl
    · rw [h2 x hxa]; rfl
  · rwa [e]
theorem eqSoS0 {x : PySem.Str} : ∀ y : Option PySem.Str, y ≠ some x → eqS (oS y) (.str x) = some false
  | none, _ => rfl
  | some y, h => congrArg some (beq_eq_false_iff_ne.mpr fun e => h (by rw [e]))
theorem eqSoS1 {x : PySem.Str} : eqS (oS (some x)) (.str x) = some true := congrArg some (beq_self_eq_true x)
@[simp] theorem in_names {x : PySem.Str} {l : List (Option PySem.Str)} {Q : Bool → Prop} : inP (.str x) (.list (l.map oS)) Q = Q (decide (some x ∈ l)) :=
  in_gen (a := some x) eqSoS1 eqSoS0
@[simp] theorem in_ints {x : Int} {l : List (Option Int)} {Q : Bool → Prop} : inP (.int x) (.list (l.map oI)) Q = Q (decide (some x ∈ l)) :=
  in_gen (a := some x) (show eqS (oI (some x)) (.int x) = some true from congrArg some (beq_self_eq_true x)) fun y h => by
    cases y with
    | none => rfl
    | some y => exact congrArg some (beq_eq_false_iff_ne.mpr fun e => h (by rw [e]))
@[simp] theorem in_none {l : List (Option Int)} {Q : Bool → Prop} : inP .none (.list (l.map oI)) Q = Q (decide (none ∈ l)) :=
  in_gen (a := none) rfl fun y h => by
    cases y with
    | none => exact absurd rfl h
    | some y => rfl
theorem find_names {x : PySem.Str} : ∀ {l : List (Option PySem.Str)}, some x ∈ l → ((l.map oS).findIdx? fun y => eqS y (.str x) == some true) = some (l.idxOf (some x))
  | a :: l, hx => by
    rw [List.map_cons, List.findIdx?_cons]
    by_cases h : a = some x
    · subst h; rw [eqSoS1]; simp
    · rw [eqSoS0 a h, find_names ((List.mem_cons.mp hx).resolve_left fun e => h e.symm)]
      simp [List.idxOf_cons, beq_eq_false_iff_ne.mpr h]
theorem lidx_names {x : PySem.Str} {l : List (Option PySem.Str)} {Q : PV → Prop} (hx : some x ∈ l) : lidxP (.list (l.map oS)) (.str x) Q = (l.length < 1099511627776 ∧ Q (.int (l.idxOf (some x) : Nat))) := by
  unfold lidxP
  simp only [find_names hx, List.length_map]
  refine propext ⟨fun h => h.2, fun h => ⟨fun y hy => ?_, h⟩⟩
  obtain ⟨z, _, rfl⟩ := List.mem_map.mp hy
  by_cases h : z = some x
  · rw [h, eqSoS1]; rfl
  · rw [eqSoS0 z h]; rfl
theorem map_inj' {α β : Type} {f : α → β} (hf : ∀ a b, f a = f b → a = b) : ∀ {l l' : List α}, l.map f = l'.map f → l = l'
  | [], [], _ => rfl
  | a :: l, b :: l', h => by
    simp only [List.map_cons, List.cons.injEq] at h
    rw [hf _ _ h.1, map_inj' hf h.2]
@[simp] theorem str_inj {a b : String} : (Str.ofString a = Str.ofString b) = (a = b) := by
  refine propext ⟨fun h => ?_, fun h => by rw [h]⟩
  rw [Str.ofString_eq_toList, Str.ofString_eq_toList] at h
  have h2 : (a.toList.map Char.toNat).toArray = (b.toList.map Char.toNat).toArray := congrArg Str.cps h
  have h3 : a.toList.map Char.toNat = b.toList.map Char.toNat := by simpa using h2
  exact String.toList_inj.mp (map_inj' (fun x y e => Char.toNat_inj.mp e) h3)
@[simp] theorem gq0 {α : Type} {x0 : α} {l : List α} : (x0 :: l)[0]? = some x0 := rfl
@[simp] theorem gs0 {α : Type} {x0 v : α} {l : List α} : (x0 :: l).set 0 v = v :: l := rfl
@[simp] theorem gq1 {α : Type} {x0 x1 : α} {l : List α} : (x0 :: x1 :: l)[1]? = some x1 := rfl
@[simp] theorem gs1 {α : Type} {x0 x1 v : α} {l : List α} : (x0 :: x1 :: l).set 1 v = x0 :: v :: l := rfl
@[simp] theorem gq2 {α : Type} {x0 x1 x2 : α} {l : List α} : (x0 :: x1 :: x2 :: l)[2]? = some x2 := rfl
@[simp] theorem gs2 {α : Type} {x0 x1 x2 v : α} {l : List α} : (x0 :: x1 :: x2 :: l).set 2 v = x0 :: x1 :: v :: l := rfl
@[simp] theorem gq3 {α : Type} {x0 x1 x2 x3 : α} {l : List α} : (x0 :: x1 :: x2 :: x3 :: l)[3]? = some x3 := rfl
@[simp] theorem gs3 {α : Type} {x0 x1 x2 x3 v : α} {l : List α} : (x0 :: x1 :: x2 :: x3 :: l).set 3 v = x0 :: x1 :: x2 :: v :: l := rfl
@[simp] theorem gq4 {α : Type} {x0 x1 x2 x3 x4 : α} {l : List α} : (x0 :: x1 :: x2 :: x3 :: x4 :: l)[4]? = some x4 := rfl
@[simp] theorem gs4 {α : Type} {x0 x1 x2 x3 x4 v : α} {l : List α} : (x0 :: x1 :: x2 :: x3 :: x4 :: l).set 4 v = x0 :: x1 :: x2 :: x3 :: v :: l := rfl
@[simp] theorem gq5 {α : Type} {x0 x1 x2 x3 x4 x5 : α} {l : List α} : (x0 :: x1 :: x2 :: x3 :: x4 :: x5 :: l)[5]? = some x5 := rfl
@[simp] theorem gs5 {α : Type} {x0 x1 x2 x3 x4 x5 v : α} {l : List α} : (x0 :: x1 :: x2 :: x3 :: x4 :: x5 :: l).set 5 v = x0 :: x1 :: x2 :: x3 :: x4 :: v :: l := rfl
@[simp] theorem gq6 {α : Type} {x0 x1 x2 x3 x4 x5 x6 : α} {l : List α} : (x0 :: x1 :: x2 :: x3 :: x4 :: x5 :: x6 :: l)[6]? = some x6 := rfl
@[simp] theorem gs6 {α : Type} {x0 x1 x2 x3 x4 x5 x6 v : α} {l : List α} : (x0 :: x1 :: x2 :: x3 :: x4 :: x5 :: x6 :: l).set 6 v = x0 :: x1 :: x2 :: x3 :: x4 :: x5 :: v :: l := rfl
@[simp] theorem gq7 {α : Type} {x0 x1 x2 x3 x4 x5 x6 x7 : α} {l : List α} : (x0 :: x1 :: x2 :: x3 :: x4 :: x5 :: x6 :: x7 :: l)[7]? = some x7 := rfl
@[simp] theorem gs7 {α : Type} {x0 x1 x2 x3 x4 x5 x6 x7 v : α} {l : List α} : (x0 :: x1 :: x2 :: x3 :: x4 :: x5 :: x6 :: x7 :: l).set 7 v = x0 :: x1 :: x2 :: x3 :: x4 :: x5 :: x6 :: v :: l := rfl
@[simp] theorem gq8 {α : Type} {x0 x1 x2 x3 x4 x5 x6 x7 x8 : α} {l : List α} : (x0 :: x1 :: x2 :: x3 :: x4 :: x5 :: x6 :: x7 :: x8 :: l)[8]? = some x8 := rfl
@[simp] theorem gs8 {α : Type} {x0 x1 x2 x3 x4 x5 x6 x7 x8 v : α} {l : List α} : (x0 :: x1 :: x2 :: x3 :: x4 :: x5 :: x6 :: x7 :: x8 :: l).set 8 v = x0 :: x1 :: x2 :: x3 :: x4 :: x5 :: x6 :: x7 :: v :: l := rfl
@[simp] theorem gq9 {α : Type} {x0 x1 x2 x3 x4 x5 x6 x7 x8 x9 : α} {l : List α} : (x0 :: x1 :: x2 :: x3 :: x4 :: x5 :: x6 :: x7 :: x8 :: x9 :: l)[9]? = some x9 := rfl
@[simp] theorem gs9 {α : Type} {x0 x1 x2 x3 x4 x5 x6 x7 x8 x9 v : α} {l : List α} : (x0 :: x1 :: x2 :: x3 :: x4 :: x5 :: x6 :: x7 :: x8 :: x9 :: l).set 9 v = x0 :: x1 :: x2 :: x3 :: x4 :: x5 :: x6 :: x7 :: x8 :: v :: l := rfl
@[simp] theorem gq10 {α : Type} {x0 x1 x2 x3 x4 x5 x6 x7 x8 x9 x10 : α} {l : List α} : (x0 :: x1 :: x2 :: x3 :: x4 :: x5 :: x6 :: x7 :: x8 :: x9 :: x10 :: l)[10]? = some x10 := rfl
@[simp] theorem gs10 {α : Type} {x0 x1 x2 x3 x4 x5 x6 x7 x8 x9 x10 v : α} {l : List α} : (x0 :: x1 :: x2 :: x3 :: x4 :: x5 :: x6 :: x7 :: x8 :: x9 :: x10 :: l).set 10 v = x0 :: x1 :: x2 :: x3 :: x4 :: x5 :: x6 :: x7 :: x8 :: x9 :: v :: l := rfl
@[simp] theorem gq11 {α : Type} {x0 x1 x2 x3 x4 x5 x6 x7 x8 x9 x10 x11 : α} {l : List α} : (x0 :: x1 :: x2 :: x3 :: x4 :: x5 :: x6 :: x7 :: x8 :: x9 :: x10 :: x11 :: l)[11]? = some x11 := rfl
@[simp] theorem gs11 {α : Type} {x0 x1 x2 x3 x4 x5 x6 x7 x8 x9 x10 x11 v : α} {l : List α} : (x0 :: x1 :: x2 :: x3 :: x4 :: x5 :: x6 :: x7 :: x8 :: x9 :: x10 :: x11 :: l).set 11 v = x0 :: x1 :: x2 :: x3 :: x4 :: x5 :: x6 :: x7 :: x8 :: x9 :: x10 :: v :: l := rfl
@[simp] theorem gq12 {α : Type} {x0 x1 x2 x3 x4 x5 x6 x7 x8 x9 x10 x11 x12 : α} {l : List α} : (x0 :: x1 :: x2 :: x3 :: x4 :: x5 :: x6 :: x7 :: x8 :: x9 :: x10 :: x11 :: x12 :: l)[12]? = some x12 := rfl
@[simp] theorem gs12 {α : Type} {x0 x1 x2 x3 x4 x5 x6 x7 x8 x9 x10 x11 x12 v : α} {l : List α} : (x0 :: x1 :: x2 :: x3 :: x4 :: x5 :: x6 :: x7 :: x8 :: x9 :: x10 :: x11 :: x12 :: l).set 12 v = x0 :: x1 :: x2 :: x3 :: x4 :: x5 :: x6 :: x7 :: x8 :: x9 :: x10 :: x11 :: v :: l := rfl
@[simp] theorem gq13 {α : Type} {x0 x1 x2 x3 x4 x5 x6 x7 x8 x9 x10 x11 x12 x13 : α} {l : List α} : (x0 :: x1 :: x2 :: x3 :: x4 :: x5 :: x6 :: x7 :: x8 :: x9 :: x10 :: x11 :: x12 :: x13 :: l)[13]? = some x13 := rfl
@[simp] theorem gs13 {α : Type} {x0 x1 x2 x3 x4 x5 x6 x7 x8 x9 x10 x11 x12 x13 v : α} {l : List α} : (x0 :: x1 :: x2 :: x3 :: x4 :: x5 :: x6 :: x7 :: x8 :: x9 :: x10 :: x11 :: x12 :: x13 :: l).set 13 v = x0 :: x1 :: x2 :: x3 :: x4 :: x5 :: x6 :: x7 :: x8 :: x9 :: x10 :: x11 :: x12 :: v :: l := rfl
@[simp] theorem gq14 {α : Type} {x0 x1 x2 x3 x4 x5 x6 x7 x8 x9 x10 x11 x12 x13 x14 : α} {l : List α} : (x0 :: x1 :: x2 :: x3 :: x4 :: x5 :: x6 :: x7 :: x8 :: x9 :: x10 :: x11 :: x12 :: x13 :: x14 :: l)[14]? = some x14 := rfl
@[simp] theorem gs14 {α : Type} {x0 x1 x2 x3 x4 x5 x6 x7 x8 x9 x10 x11 x12 x13 x14 v : α} {l : List α} : (x0 :: x1 :: x2 :: x3 :: x4 :: x5 :: x6 :: x7 :: x8 :: x9 :: x10 :: x11 :: x12 :: x13 :: x14 :: l).set 14 v = x0 :: x1 :: x2 :: x3 :: x4 :: x5 :: x6 :: x7 :: x8 :: x9 :: x10 :: x11 :: x12 :: x13 :: v :: l := rfl
@[simp] theorem gq15 {α : Type} {x0 x1 x2 x3 x4 x5 x6 x7 x8 x9 x10 x11 x12 x13 x14 x15 : α} {l : List α} : (x0 :: x1 :: x2 :: x3 :: x4 :: x5 :: x6 :: x7 :: x8 :: x9 :: x10 :: x11 :: x12 :: x13 :: x14 :: x15 :: l)[15]? = some x15 := rfl
@[simp] theorem gs15 {α : Type} {x0 x1 x2 x3 x4 x5 x6 x7 x8 x9 x10 x11 x12 x13 x14 x15 v : α} {l : List α} : (x0 :: x1 :: x2 :: x3 :: x4 :: x5 :: x6 :: x7 :: x8 :: x9 :: x10 :: x11 :: x12 :: x13 :: x14 :: x15 :: l).set 15 v = x0 :: x1 :: x2 :: x3 :: x4 :: x5 :: x6 :: x7 :: x8 :: x9 :: x10 :: x11 :: x12 :: x13 :: x14 :: v :: l := rfl
@[simp] theorem gq16 {α : Type} {x0 x1 x2 x3 x4 x5 x6 x7 x8 x9 x10 x11 x12 x13 x14 x15 x16 : α} {l : List α} : (x0 :: x1 :: x2 :: x3 :: x4 :: x5 :: x6 :: x7 :: x8 :: x9 :: x10 :: x11 :: x12 :: x13 :: x14 :: x15 :: x16 :: l)[16]? = some x16 := rfl
@[simp] theorem gs16 {α : Type} {x0 x1 x2 x3 x4 x5 x6 x7 x8 x9 x10 x11 x12 x13 x14 x15 x16 v : α} {l : List α} : (x0 :: x1 :: x2 :: x3 :: x4 :: x5 :: x6 :: x7 :: x8 :: x9 :: x10 :: x11 :: x12 :: x13 :: x14 :: x15 :: x16 :: l).set 16 v = x0 :: x1 :: x2 :: x3 :: x4 :: x5 :: x6 :: x7 :: x8 :: x9 :: x10 :: x11 :: x12 :: x13 :: x14 :: x15 :: v :: l := rfl
@[simp] theorem gq17 {α : Type} {x0 x1 x2 x3 x4 x5 x6 x7 x8 x9 x10 x11 x12 x13 x14 x15 x16 x17 : α} {l : List α} : (x0 :: x1 :: x2 :: x3 :: x4 :: x5 :: x6 :: x7 :: x8 :: x9 :: x10 :: x11 :: x12 :: x13 :: x14 :: x15 :: x16 :: x17 :: l)[17]? = some x17 := rfl
@[simp] theorem gs17 {α : Type} {x0 x1 x2 x3 x4 x5 x6 x7 x8 x9 x10 x11 x12 x13 x14 x15 x16 x17 v : α} {l : List α} : (x0 :: x1 :: x2 :: x3 :: x4 :: x5 :: x6 :: x7 :: x8 :: x9 :: x10 :: x11 :: x12 :: x13 :: x14 :: x15 :: x16 :: x17 :: l).set 17 v = x0 :: x1 :: x2 :: x3 :: x4 :: x5 :: x6 :: x7 :: x8 :: x9 :: x10 :: x11 :: x12 :: x13 :: x14 :: x15 :: x16 :: v :: l := rfl
@[simp] theorem gq18 {α : Type} {x0 x1 x2 x3 x4 x5 x6 x7 x8 x9 x10 x11 x12 x13 x14 x15 x16 x17 x18 : α} {l : List α} : (x0 :: x1 :: x2 :: x3 :: x4 :: x5 :: x6 :: x7 :: x8 :: x9 :: x10 :: x11 :: x12 :: x13 :: x14 :: x15 :: x16 :: x17 :: x18 :: l)[18]? = some x18 := rfl
@[simp] theorem gs18 {α : Type} {x0 x1 x2 x3 x4 x5 x6 x7 x8 x9 x10 x11 x12 x13 x14 x15 x16 x17 x18 v : α} {l : List α} : (x0 :: x1 :: x2 :: x3 :: x4 :: x5 :: x6 :: x7 :: x8 :: x9 :: x10 :: x11 :: x12 :: x13 :: x14 :: x15 :: x16 :: x17 :: x18 :: l).set 18 v = x0 :: x1 :: x2 :: x3 :: x4 :: x5 :: x6 :: x7 :: x8 :: x9 :: x10 :: x11 :: x12 :: x13 :: x14 :: x15 :: x16 :: x17 :: v :: l := rfl
end Mine

end
section
open PySem PySem.W PySem.Calls PyProof.Rows PySem.Spec
set_option Elab.async false
set_option maxRecDepth 100000
set_option linter.unusedVariables false
set_option linter.unusedSimpArgs false
namespace Mine
/-- all that a contract leans on -/
structure Wd (σ : Sig) : Prop where
  kk : KK σ
  pm : Prims σ
  ev : ∀ n, EvOK σ n
  tv : ∀ n, TvOK σ n
  nul : ∀ {k : Nat} {Q : PV → Prop} {R : PySem.Str → Prop}, Q .null → Ct σ (k + 3) 196 [] Q R
  mis : ∀ {k : Nat} {Q : PV → Prop} {R : PySem.Str → Prop}, Q .missing → Ct σ (k + 3) 217 [] Q R
  nxt : ∀ {k : Nat} {Q : PV → Prop} {R : PySem.Str → Prop}, (∀ i, Q (.int i)) → Ct σ (k + 1) 441 [.row] Q R
  red : ∀ {k : Nat} {Q : PV → Prop} {R : PySem.Str → Prop} {a d : Int}, 0 < d → d ≤ 4 → (∀ x y, Q (.tup [.int x, .int y])) → Ct σ (k + 1) 448 [.int a, .int d] Q R
  vec : ∀ {k : Nat} {Q : PV → Prop} {R : PySem.Str → Prop} {x : PySem.Str} {it : PV}, Q (.vec x it .none) → Ct σ (k + 3) 246 [.str x, it] Q R
section
variable {σ : Sig} {k : Nat} {Q : PV → Prop} {R : PySem.Str → Prop}
theorem Wd.ct (W : Wd σ) {f : Addr} {params : List PySem.Str} {d : Nat} {ir : List IS} {args : List PV} (I : IsDef σ f G0 params d ir) (hl : args.length = params.length) (hw : wpSs (Ct σ) k (args.map .v ++ List.replicate (d - args.length) .u) ir (retQ Q) R) : Ct σ (k + 1) f args Q R :=
  def_ct (kok W.kk) W.pm (glob_ok W.kk) W.ev W.tv I hl hw

/-- the attributes of our vectors -/
noncomputable def cv (l : List PV) : PV := .vec "character" (.list l) .none
noncomputable def attrsP : Option (List PV) → Bool → PV
  | none, false => .none
  | some nl, false => .sd ["names"] [cv nl]
  | none, true => .sd ["unit"] [cv [.str "m"]]
  | some nl, true => .sd ["names", "unit"] [cv nl, cv [.str "m"]]
noncomputable def attrP (nm : Option (List PV)) (u : Bool) (x : PySem.Str) : PV := if x = "names" then (match nm with | some nl => cv nl | none => .none) else if x = "unit" then (if u then cv [.str "m"] else .none) else .none
theorem ct_get_attr (W : Wd σ) {kd x : PySem.Str} {it : PV} {nm : Option (List PV)} {u : Bool} (h : Q (attrP nm u x)) : Ct σ (k + 1) 28 [.vec kd it (attrsP nm u), .str x] Q R := by
  refine W.ct (is_get_attr W.kk) rfl ?_
  cases nm <;> cases u
  all_goals
    simp [-getElem?_pos, ir_get_attr, attrsP, attrP]
    simp [attrP] at h
    try simp [lk_0, lk_c]
  · exact h
  · by_cases e : Str.ofString "unit" = x
    · subst e; simpa [str_inj] using h
    · rw [if_neg e]; rw [if_neg (c := x = Str.ofString "unit") (fun e' => e e'.symm)] at h; simpa using h
  · by_cases e : Str.ofString "names" = x
    · subst e; simpa [str_inj] using h
    · rw [if_neg e]; rw [if_neg (fun e' => e e'.symm)] at h; simpa using h
  · by_cases e : Str.ofString "names" = x
    · subst e; simpa [str_inj] using h
    · rw [if_neg e]; rw [if_neg (fun e' => e e'.symm)] at h
      by_cases e2 : Str.ofString "unit" = x
      · subst e2; simpa [str_inj] using h
      · rw [if_neg e2]; rw [if_neg (fun e' => e2 e'.symm)] at h; simpa using h
theorem ct_get_attr_no (W : Wd σ) {kd x : PySem.Str} {it : PV} {nm : Option (List PV)} {u : Bool} (h1 : x ≠ "names") (h2 : x ≠ "unit") (h : Q .none) : Ct σ (k + 1) 28 [.vec kd it (attrsP nm u), .str x] Q R :=
  ct_get_attr W (by simpa [attrP, h1, h2] using h)
theorem ct_get_attr0 (W : Wd σ) {p : PV} {x : PySem.Str} (hp : p = .null ∨ p = .missing) (h : Q .none) : Ct σ (k + 1) 28 [p, .str x] Q R := by
  refine W.ct (is_get_attr W.kk) rfl ?_
  rcases hp with rfl | rfl <;> simp [-getElem?_pos, ir_get_attr] <;> exact h
theorem ct_dim_of (W : Wd σ) {kd : PySem.Str} {it : PV} {nm : Option (List PV)} {u : Bool} (h : Q .none) : Ct σ (k + 2) 40 [.vec kd it (attrsP nm u)] Q R := by
  refine W.ct (is_dim_of W.kk) rfl ?_
  simp [-getElem?_pos, ir_dim_of]
  refine ct_get_attr_no W (by decide) (by decide) ?_
  simp [-getElem?_pos]
  exact h
theorem ct_dimnames_of (W : Wd σ) {kd : PySem.Str} {it : PV} {nm : Option (List PV)} {u : Bool} (h : Q .none) : Ct σ (k + 2) 45 [.vec kd it (attrsP nm u)] Q R := by
  refine W.ct (is_dimnames_of W.kk) rfl ?_
  simp [-getElem?_pos, ir_dimnames_of]
  refine ct_get_attr_no W (by decide) (by decide) ?_
  simp [-getElem?_pos]
  exact h
noncomputable def namesP : Option (List PV) → PV
  | none => .none | some l => .list l
theorem ct_names_of (W : Wd σ) {kd : PySem.Str} {it : PV} {nm : Option (List PV)} {u : Bool} (hk : kd ≠ "language" ∧ kd ≠ "environment") (hl : ∀ l, nm = some l → l.length ≤ 9) (h : Q (namesP nm)) : Ct σ (k + 3) 33 [.vec kd it (attrsP nm u)] Q R := by
  refine W.ct (is_names_of W.kk) rfl ?_
  simp [-getElem?_pos, ir_names_of, hk.1, hk.2]
  refine ct_dim_of W ?_
  simp [-getElem?_pos]
  refine ct_get_attr W ?_
  cases nm with
  | none => simp [-getElem?_pos, attrP]; exact h
  | some l =>
    have := hl l rfl
    simp [-getElem?_pos, attrP, cv]
    exact ⟨by omega, h⟩
theorem ct_is_finite (W : Wd σ) {a b : Int} (h : Q (.bool (decide (0 < b)))) : Ct σ (k + 1) 84 [.tup [.int a, .int b]] Q R := by
  refine W.ct (is_is_finite W.kk) rfl ?_
  simp [-getElem?_pos, ir_is_finite]
  exact h
noncomputable def whole : Option (Int × Int) → Option Int
  | none => none
  | some (a, b) => if b = 0 then none else some (if 0 ≤ a then a.fdiv b else -((-a).fdiv b))
theorem ct_to_whole (W : Wd σ) {a b : Int} (hb : 0 < b) (hb2 : b ≤ 4) (h : Q (oI (whole (some (a, b))))) : Ct σ (k + 2) 91 [.tup [.int a, .int b]] Q R := by
  refine W.ct (is_to_whole W.kk) rfl ?_
  simp [-getElem?_pos, ir_to_whole]
  refine ct_is_finite W ?_
  have h0 : b ≠ 0 := by omega
  simp [-getElem?_pos, hb, h0]
  refine ⟨by omega, fun ha => ?_, fun ha => ?_⟩
  · simpa [whole, h0, ha, oI, show ¬ a < 0 by omega] using h
  · simpa [whole, h0, show ¬ 0 ≤ a by omega, oI, ha] using h
noncomputable def okP (l : List (Option (Int × Int))) : Prop := ∀ a b, some (a, b) ∈ l → b = 0 ∨ (0 < b ∧ b ≤ 4)
theorem loop_ws (W : Wd σ) {p : PV} (Qf : Fl → List Bd → Prop) : ∀ (l : List (Option (Int × Int))) (acc : List PV) (t : Bd), okP l → acc.length + l.length ≤ 2 ^ 20 → (∀ t, Qf .next [.v p, .ol (acc ++ l.map fun x => oI (whole x)), t, .u]) →
    wpFor (kBody (Ct σ) (k + 2) [.ite (.or (.cmp .Is (.var 2) (.lit .none)) (.cmp .Eq (.idx (.var 2) (.lit (.int 1))) (.lit (.int 0)))) [.app 1 (.lit .none)] [.app 1 (.call 91 [(.var 2)])]]) 2 (l.map oP) [.v p, .ol acc, t, .u] Qf
  | [], acc, t, _, _, h => by simpa [wf_n, wf_c, wf_1, wf_2, wf_3] using h t
  | x :: l, acc, t, ok, hl, h => by
    simp only [List.length_cons] at hl
    have ih := fun a => loop_ws W (p := p) Qf l (acc ++ [a]) (.v (oP x)) (fun a b hm => ok a b (.tail _ hm)) (by simp; omega)
    match x, ok, h, ih with
    | none, _, h, ih =>
      simp [-getElem?_pos, wf_c, wf_1, wf_2, wf_3, oP]
      exact ⟨by omega, ih _ (by simpa [whole, oI] using h)⟩
    | some (a, b), ok, h, ih =>
      simp [-getElem?_pos, wf_c, wf_1, wf_2, wf_3, oP]
      refine ⟨fun hb => ⟨by omega, ih _ (by simpa [whole, oI, hb] using h)⟩, fun hb => ?_⟩
      rcases ok a b (.head _) with h0 | ⟨h1, h2⟩
      · exact absurd h0 hb
      · exact ct_to_whole W h1 h2 (by simp [-getElem?_pos]; exact ⟨by omega, ih _ (by simpa using h)⟩)
theorem ct_ws_int (W : Wd σ) {it at' : PV} (h : Q it) : Ct σ (k + 1) 98 [.vec "integer" it at'] Q R := by
  refine W.ct (is_whole_subscripts W.kk) rfl ?_
  simp [-getElem?_pos, ir_whole_subscripts]
  exact h
theorem ct_ws_dbl (W : Wd σ) {l : List (Option (Int × Int))} {at' : PV} (ok : okP l) (hl : l.length ≤ 10) (h : Q (.list (l.map fun x => oI (whole x)))) : Ct σ (k + 3) 98 [.vec "double" (.list (l.map oP)) at'] Q R := by
  refine W.ct (is_whole_subscripts W.kk) rfl ?_
  simp [-getElem?_pos, ir_whole_subscripts]
  refine loop_ws W _ l [] .u ok (by simp; omega) fun t => ?_
  simp [-getElem?_pos]
  exact h
end
end Mine

end
section
open PySem PySem.W PySem.Calls PyProof.Rows PySem.Spec
set_option Elab.async false
set_option maxRecDepth 100000
set_option linter.unusedVariables false
set_option linter.unusedSimpArgs false
namespace Mine
section
variable {σ : Sig} {k : Nat} {Q : PV → Prop} {R : PySem.Str → Prop}
theorem fmod_nat {a b : Nat} : Int.fmod (a : Int) (b : Int) = ((a % b : Nat) : Int) := by
  rw [Int.fmod_eq_emod_of_nonneg _ (by omega)]; rfl
noncomputable def lglF (l : List (Option Int)) (i : Nat) : Option (Option Nat) := match l[i % l.length]? with
  | some none => some none
  | some (some x) => if x = 0 then none else some (some i)
  | none => none
noncomputable def lglPl (l : List (Option Int)) (n : Nat) : List (Option Nat) := if l = [] then [] else (List.range (max n l.length)).filterMap (lglF l)
theorem max_nat {n m : Nat} : (if n < m then (m : Int) else (n : Int)) = ((max n m : Nat) : Int) := by split <;> omega
theorem rngL_nat {n : Nat} : rngL (n : Int) = (List.range n).map fun i : Nat => PV.int i := rfl
theorem idx_mod {l : List (Option Int)} (hl : l ≠ []) (i : Nat) : ∃ x, l[i % l.length]? = some x := by
  have : 0 < l.length := List.length_pos_iff.mpr hl
  exact ⟨_, List.getElem?_eq_getElem (Nat.mod_lt _ this)⟩
theorem loop_lp {l : List (Option Int)} (hl : l ≠ []) (hl2 : l.length ≤ 10) {n : PV} (Qf : Fl → List Bd → Prop) : ∀ (is : List Nat) (acc : List PV) (t4 t5 : Bd), acc.length + is.length ≤ 2 ^ 20 →
    (∀ t4 t5, Qf .next [.v (.list (l.map oI)), .v n, .v (.int l.length), .ol (acc ++ (is.filterMap (lglF l)).map oN), t4, t5, .u, .u, .u]) →
    wpFor (kBody (Ct σ) k [.asg 5 (.idx (.var 0) (.bin .Mod (.var 4) (.var 2))), .ite (.cmp .Is (.var 5) (.lit .none)) [.app 3 (.lit .none)] [.ite (.cmp .NotEq (.var 5) (.lit (.int 0))) [.app 3 (.var 4)] []]]) 4
      (is.map fun i : Nat => PV.int i) [.v (.list (l.map oI)), .v n, .v (.int l.length), .ol acc, t4, t5, .u, .u, .u] Qf
  | [], acc, t4, t5, _, h => by simpa [wf_n, wf_c, wf_1, wf_2, wf_3] using h t4 t5
  | i :: is, acc, t4, t5, hb, h => by
    simp only [List.length_cons] at hb
    obtain ⟨x, hx⟩ := idx_mod hl i
    have hpos : 0 < l.length := List.length_pos_iff.mpr hl
    have hm : i % l.length < l.length := Nat.mod_lt _ hpos
    have hf : (i : Int).fmod l.length = ((i % l.length : Nat) : Int) := fmod_nat
    have hg : l[((i : Int).fmod l.length).toNat]? = some x := by rw [hf, Int.toNat_natCast]; exact hx
    have h1 : (0 : Int) ≤ (i : Int).fmod l.length := by rw [hf]; omega
    have h2 : (i : Int).fmod l.length < 1099511627776 := by rw [hf]; omega
    have ih := fun a => loop_lp hl hl2 (n := n) Qf is (acc ++ a) (.v (.int i)) (.v (oI x))
    rw [List.filterMap_cons] at h
    simp only [lglF, hx] at h
    have h3 : acc.length ≤ 1048576 := by omega
    simp [-getElem?_pos, wf_c, wf_1, wf_2, wf_3, h1, h2, hg, hl]
    match x, h, ih with
    | none, h, ih =>
      simp [-getElem?_pos, oI, h3]
      exact ih [.none] (by simp; omega) (by simpa [oN, oI] using h)
    | some x, h, ih =>
      by_cases hx0 : x = 0
      · subst hx0
        simp [-getElem?_pos, oI]
        simpa [oI] using ih [] (by simp; omega) (by simpa using h)
      · simp [-getElem?_pos, oI, hx0, h3]
        exact ih [.int i] (by simp; omega) (by simpa [hx0, oN] using h)
theorem ct_logical_places {l : List (Option Int)} {n : Nat} (W : Wd σ) (hl : l.length ≤ 10) (hn : n ≤ 10) (h : Q (.list ((lglPl l n).map oN))) : Ct σ (k + 1) 105 [.list (l.map oI), .int n] Q R := by
  refine W.ct (is_logical_places W.kk) rfl ?_
  simp [-getElem?_pos, ir_logical_places]
  by_cases h0 : l = []
  · subst h0; simp [-getElem?_pos]; simpa [lglPl] using h
  · simp [-getElem?_pos, h0]
    rw [max_nat]
    refine ⟨by omega, ⟨by omega, by omega⟩, ?_⟩
    rw [rngL_nat]
    refine loop_lp h0 hl _ _ [] .u .u (by simp; omega) fun t4 t5 => ?_
    simp [-getElem?_pos]
    simpa [lglPl, h0] using h
/-! whole numbers -/
noncomputable def lo : List Int → Bd
  | [] => .os [] [] | ks => .oi ks
noncomputable def addK (ks : List Int) (x : Int) : List Int := if x ∈ ks then ks else ks ++ [x]
noncomputable def posPl (l : List (Option Int)) : List (Option Nat) := l.filterMap fun x => match x with
  | none => some none | some i => if 0 < i then some (some (i - 1).toNat) else none
noncomputable def negK : List Int → List (Option Int) → List Int
  | ks, [] => ks
  | ks, none :: l => negK ks l
  | ks, some i :: l => negK (if i < 0 then addK ks (-i - 1) else ks) l
theorem addK_len {ks : List Int} {x : Int} : (addK ks x).length ≤ ks.length + 1 := by
  unfold addK; split <;> simp
theorem lo_addK {ks : List Int} {x : Int} : lo (addK ks x) = .oi (addK ks x) := by
  have : addK ks x ≠ [] := by
    unfold addK; split
    · next h => intro e; rw [e] at h; cases h
    · simp
  revert this; cases addK ks x <;> simp [lo]
theorem loop_wp {its n : PV} (Qf : Fl → List Bd → Prop) : ∀ (l : List (Option Int)) (acc : List PV) (ks : List Int) (b : Bool) (t5 : Bd), acc.length + l.length ≤ 2 ^ 20 → ks.length + l.length ≤ 2 ^ 20 →
    (∀ t5, Qf .next [.v its, .v n, .ol (acc ++ (posPl l).map oN), lo (negK ks l), .v (.bool (b || l.any (·.isNone))), t5, .u, .u, .u]) →
    wpFor (kBody (Ct σ) k [.ite (.cmp .Is (.var 5) (.lit .none)) [.asg 4 (.lit (.bool true)), .app 2 (.lit .none)] [.ite (.cmp .Gt (.var 5) (.lit (.int 0))) [.app 2 (.bin .Sub (.var 5) (.lit (.int 1)))] [.ite (.cmp .Lt (.var 5) (.lit (.int 0))) [.seti 3 (.bin .Sub (.neg (.var 5)) (.lit (.int 1))) (.lit (.bool true))] []]]]) 5
      (l.map oI) [.v its, .v n, .ol acc, lo ks, .v (.bool b), t5, .u, .u, .u] Qf
  | [], acc, ks, b, t5, _, _, h => by simpa [wf_n, wf_c, wf_1, wf_2, wf_3, posPl, negK] using h t5
  | none :: l, acc, ks, b, t5, h1, h2, h => by
    simp only [List.length_cons] at h1 h2
    have h3 : acc.length ≤ 1048576 := by omega
    simp [-getElem?_pos, wf_c, wf_1, wf_2, wf_3, oI, h3]
    exact loop_wp Qf l (acc ++ [.none]) ks true _ (by simp; omega) (by omega) (by simpa [posPl, negK, oN] using h)
  | some i :: l, acc, ks, b, t5, h1, h2, h => by
    simp only [List.length_cons] at h1 h2
    have h3 : acc.length ≤ 1048576 := by omega
    have h4 : ks.length ≤ 1048576 := by omega
    rcases Int.lt_trichotomy i 0 with hi | hi | hi
    · have h5 : ¬ 0 < i := by omega
      have ih := loop_wp Qf l acc (addK ks (-i - 1)) b (.v (.int i)) (by omega) (by have := addK_len (ks := ks) (x := -i - 1); omega) (by simpa [posPl, negK, hi, h5] using h)
      rw [lo_addK] at ih
      cases ks with
      | nil => simp [-getElem?_pos, wf_c, wf_1, wf_2, wf_3, oI, hi, h5, lo]; simpa [addK] using ih
      | cons a ks => simp [-getElem?_pos, wf_c, wf_1, wf_2, wf_3, oI, hi, h5, lo]; exact ⟨by simpa using h4, by simpa [addK] using ih⟩
    · subst hi
      simp [-getElem?_pos, wf_c, wf_1, wf_2, wf_3, oI]
      exact loop_wp Qf l acc ks b (.v (.int 0)) (by omega) (by omega) (by simpa [posPl, negK] using h)
    · have h5 : ¬ i < 0 := by omega
      simp [-getElem?_pos, wf_c, wf_1, wf_2, wf_3, oI, hi, h5, h3]
      exact loop_wp Qf l (acc ++ [.int (i - 1)]) ks b _ (by simp; omega) (by omega) (by
        have e : ((i.toNat - 1 : Nat) : Int) = i - 1 := by omega
        simpa [posPl, negK, oN, hi, h5, e] using h)
theorem negK_len : ∀ (l : List (Option Int)) (ks : List Int), (negK ks l).length ≤ ks.length + l.length
  | [], ks => by simp [negK]
  | none :: l, ks => by have := negK_len l ks; simp [negK]; omega
  | some i :: l, ks => by
    rw [negK]
    split
    · have := negK_len l (addK ks (-i - 1)); have := addK_len (ks := ks) (x := -i - 1); simp; omega
    · have := negK_len l ks; simp; omega
theorem negK_mem {x : Int} : ∀ (l : List (Option Int)) (ks : List Int), x ∈ negK ks l ↔ x ∈ ks ∨ (0 ≤ x ∧ some (-x - 1) ∈ l)
  | [], ks => by simp [negK]
  | none :: l, ks => by simp [negK, negK_mem l ks]
  | some i :: l, ks => by
    rw [negK, negK_mem l]
    by_cases hi : i < 0
    · simp only [hi, if_true, List.mem_cons, Option.some.injEq, addK]
      have e : x = -i - 1 ↔ (0 ≤ x ∧ -x - 1 = i) := by omega
      split
      · next hm =>
        constructor
        · rintro (h | h)
          · exact .inl h
          · exact .inr ⟨h.1, .inr h.2⟩
        · rintro (h | ⟨h0, h | h⟩)
          · exact .inl h
          · exact .inl (by rw [e.mpr ⟨h0, h⟩]; exact hm)
          · exact .inr ⟨h0, h⟩
      · rw [List.mem_append, List.mem_singleton, e]
        constructor
        · rintro ((h | h) | h)
          · exact .inl h
          · exact .inr ⟨h.1, .inl h.2⟩
          · exact .inr ⟨h.1, .inr h.2⟩
        · rintro (h | ⟨h0, h | h⟩)
          · exact .inl (.inl h)
          · exact .inl (.inr ⟨h0, h⟩)
          · exact .inr ⟨h0, h⟩
    · simp only [hi, if_false, List.mem_cons, Option.some.injEq]
      constructor
      · rintro (h | h)
        · exact .inl h
        · exact .inr ⟨h.1, .inr h.2⟩
      · rintro (h | ⟨h0, h | h⟩)
        · exact .inl h
        · omega
        · exact .inr ⟨h0, h⟩
theorem negK_nil {l : List (Option Int)} : negK [] l = [] ↔ ∀ i, some i ∈ l → 0 ≤ i := by
  constructor
  · intro h i hi
    by_cases h0 : i < 0
    · have := (negK_mem (x := -i - 1) l []).mpr (.inr ⟨by omega, by rwa [show -(-i - 1) - 1 = i by omega]⟩)
      rw [h] at this; cases this
    · omega
  · intro h
    refine List.eq_nil_iff_forall_not_mem.mpr fun x hx => ?_
    rcases (negK_mem l []).mp hx with h' | ⟨h0, h'⟩
    · cases h'
    · have := h _ h'; omega
theorem posPl_nil {l : List (Option Int)} : posPl l = [] ↔ none ∉ l ∧ ∀ i, some i ∈ l → i ≤ 0 := by
  unfold posPl
  rw [List.filterMap_eq_nil_iff]
  constructor
  · intro h
    refine ⟨fun hn => by simpa using h _ hn, fun i hi => ?_⟩
    have := h _ hi
    simp at this; omega
  · rintro ⟨h1, h2⟩ a ha
    cases a with
    | none => exact absurd ha h1
    | some i => have := h2 i ha; simp; omega
noncomputable def mNA : PySem.Str := "can't mix NAs with negative subscripts"
noncomputable def mPN : PySem.Str := "can't mix positive and negative subscripts"
open Classical in
noncomputable def wholePl (l : List (Option Int)) (n : Nat) : Except PySem.Str (List (Option Nat)) :=
  if ∀ i, some i ∈ l → 0 ≤ i then .ok (posPl l)
  else if none ∈ l then .error mNA
  else if ∃ i, some i ∈ l ∧ 0 < i then .error mPN
  else .ok (((List.range n).filter fun i : Nat => decide (some (-(i : Int) - 1) ∉ l)).map some)
noncomputable def ExP (r : Except PySem.Str α) (Q : α → Prop) (R : PySem.Str → Prop) : Prop := match r with | .ok a => Q a | .error e => R e
theorem lc_range {ρ : List Bd} {p : Nat → Bool} (Q : List PV → Prop) {elt : IE} {c : IE} (hc : ∀ (i : Nat) T R, wpT (Ct σ) k (ρ ++ [.v (.int (i : Int))]) c T R = T (p i)) (he : ∀ (i : Nat) Q R, wpE (Ct σ) k (ρ ++ [.v (.int (i : Int))]) elt Q R = Q (.int (i : Int))) :
    ∀ (is : List Nat) (acc : List PV), Q (acc ++ ((is.filter p).map some).map oN) → wpLc (kLcB (Ct σ) k ρ elt (some c)) (is.map fun i : Nat => PV.int i) acc Q
  | [], acc, h => by simpa [wl_n, wl_c] using h
  | i :: is, acc, h => by
    simp only [List.map_cons, wl_n, wl_c, kLcB, wo_some, hc, kElt, he, kSome]
    refine ⟨fun hp => ?_, fun hp => ?_⟩
    · exact lc_range Q hc he is _ (by simpa [hp, oN] using h)
    · exact lc_range Q hc he is _ (by simpa [hp] using h)
theorem ct_whole_places (W : Wd σ) {l : List (Option Int)} {n : Nat} (hl : l.length ≤ 10) (hn : n ≤ 10) (h : ExP (wholePl l n) (fun pl => Q (.list (pl.map oN))) R) : Ct σ (k + 4) 110 [.list (l.map oI), .int n] Q R := by
  refine W.ct (is_whole_places W.kk) rfl ?_
  simp [-getElem?_pos, ir_whole_places]
  refine loop_wp _ l [] [] false .u (by simp; omega) (by simp; omega) fun t5 => ?_
  unfold wholePl at h
  cases hk : negK [] l with
  | nil =>
    rw [if_pos (negK_nil.mp hk)] at h
    simp [-getElem?_pos, lo]
    simpa only [ExP] using h
  | cons a ks =>
    rw [if_neg (fun e => by rw [negK_nil.mpr e] at hk; cases hk)] at h
    simp [-getElem?_pos, lo]
    have hN : none ∈ l ↔ ¬ ∀ x : Option Int, x ∈ l → ¬ x = none := by
      constructor
      · intro h1 h2; exact h2 _ h1 rfl
      · intro h1
        exact Classical.byContradiction fun h2 => h1 fun x hx e => h2 (e ▸ hx)
    have hb : (posPl l).length ≤ l.length := by unfold posPl; exact List.length_filterMap_le ..
    have hkl : ks.length + 1 ≤ l.length := by have := negK_len l []; rw [hk] at this; simpa using this
    refine ⟨by omega, fun e => by omega, fun _ => ⟨fun h1 => ?_, fun h1 => ⟨by omega, fun h2 => ?_, fun h2 => ?_⟩⟩⟩
    · rw [if_pos h1] at h; simpa only [ExP, mNA] using h
    · rw [if_neg (fun e => hN.mp e h1), if_pos] at h
      · simpa only [ExP, mPN] using h
      · exact Classical.byContradiction fun h3 => by
          have : posPl l = [] := posPl_nil.mpr ⟨fun e => hN.mp e h1, fun i hi => Classical.byContradiction fun h4 => h3 ⟨i, hi, by omega⟩⟩
          rw [this] at h2; cases h2
    · rw [if_neg (fun e => hN.mp e h1), if_neg] at h
      · rw [rngL_nat]
        refine ⟨by omega, by simp; omega, lc_range (p := fun i : Nat => decide (some (-(i : Int) - 1) ∉ l)) _ (fun i T R => ?_) (fun i Q R => ?_) _ _ ?_⟩
        · simp [-getElem?_pos]
          have : ((i : Int) = a ∨ (i : Int) ∈ ks) ↔ some (-(i : Int) - 1) ∈ l := by
            rw [← List.mem_cons, ← hk, negK_mem]
            simp
          rw [show ((!decide ((i : Int) = a)) && !decide ((i : Int) ∈ ks)) = !decide (some (-(i : Int) - 1) ∈ l) from by simp only [← this, Bool.decide_or, Bool.not_or]]
        · simp [-getElem?_pos]
        · simp [-getElem?_pos]
          simpa [ExP] using h
      · rintro ⟨i, hi, h3⟩
        have := (posPl_nil.mp h2).2 i hi
        omega
end
end Mine

end
section
open PySem PySem.W PySem.Calls PyProof.Rows PySem.Spec
set_option Elab.async false
set_option maxRecDepth 100000
set_option linter.unusedVariables false
set_option linter.unusedSimpArgs false
namespace Mine
section
variable {σ : Sig} {k : Nat} {Q : PV → Prop} {R : PySem.Str → Prop}
/-! names -/
structure NmTab (pre : List (Option PySem.Str)) (ks : List PySem.Str) (vs : List PV) : Prop where
  len : ks.length = vs.length
  le : ks.length ≤ pre.length
  mem : ∀ x, x ∈ ks ↔ some x ∈ pre ∧ x ≠ ""
  get : ∀ x, x ∈ ks → lookP ks vs x = some (.int (pre.idxOf (some x) : Nat))
theorem NmTab.nil : NmTab [] [] [] := ⟨rfl, by simp, by simp, by simp⟩
theorem put_new : ∀ {ks : List PySem.Str} {vs : List PV} {x : PySem.Str} {p : PV}, ks.length = vs.length → x ∉ ks → putP ks vs x p = (ks ++ [x], vs ++ [p])
  | [], [], x, p, _, _ => rfl
  | k :: ks, v :: vs, x, p, hl, h => by
    have h1 : k ≠ x := fun e => h (e ▸ .head _)
    have h2 : x ∉ ks := fun e => h (.tail _ e)
    simp only [pt_0, pt_c, if_neg h1, put_new (p := p) (by simpa using hl) h2, List.cons_append]
theorem look_app : ∀ {ks : List PySem.Str} {vs : List PV} {x y : PySem.Str} {p : PV}, ks.length = vs.length → lookP (ks ++ [x]) (vs ++ [p]) y = if y ∈ ks then lookP ks vs y else if x = y then some p else none
  | [], [], x, y, p, _ => by simp [lk_0, lk_c]
  | k :: ks, v :: vs, x, y, p, hl => by
    simp only [List.cons_append, lk_0, lk_c, look_app (ks := ks) (vs := vs) (by simpa using hl), List.mem_cons]
    by_cases h : k = y
    · simp [h]
    · simp [h, Ne.symm h, show ¬ y = k from fun e => h e.symm]
theorem NmTab.skip {pre : List (Option PySem.Str)} {ks vs} (T : NmTab pre ks vs) {a : Option PySem.Str} (h : ∀ x, a = some x → x = "" ∨ x ∈ ks) : NmTab (pre ++ [a]) ks vs := by
  refine ⟨T.len, by have := T.le; simp; omega, fun x => ?_, fun x hx => ?_⟩
  · rw [List.mem_append, T.mem, List.mem_singleton]
    constructor
    · exact fun h => ⟨.inl h.1, h.2⟩
    · rintro ⟨h1 | h1, h2⟩
      · exact ⟨h1, h2⟩
      · rcases h x h1.symm with h3 | h3
        · exact absurd h3 h2
        · exact (T.mem x).mp h3
  · rw [T.get x hx, List.idxOf_append, if_pos ((T.mem x).mp hx).1]
theorem NmTab.add {pre : List (Option PySem.Str)} {ks vs} (T : NmTab pre ks vs) {x : PySem.Str} (h : x ≠ "") (hx : x ∉ ks) : NmTab (pre ++ [some x]) (putP ks vs x (.int (pre.length : Nat))).1 (putP ks vs x (.int (pre.length : Nat))).2 := by
  rw [put_new T.len hx]
  have hn : some x ∉ pre := fun e => hx ((T.mem x).mpr ⟨e, h⟩)
  refine ⟨by simp [T.len], by have := T.le; simp; omega, fun y => ?_, fun y hy => ?_⟩
  · simp only [List.mem_append, T.mem, List.mem_singleton, Option.some.injEq]
    constructor
    · rintro (h1 | h1)
      · exact ⟨.inl h1.1, h1.2⟩
      · exact ⟨.inr h1, h1 ▸ h⟩
    · rintro ⟨h1 | h1, h2⟩
      · exact .inl ⟨h1, h2⟩
      · exact .inr h1
  · simp only
    rw [look_app T.len]
    by_cases h1 : y ∈ ks
    · rw [if_pos h1, T.get y h1, List.idxOf_append, if_pos ((T.mem y).mp h1).1]
    · have h2 : x = y := by simpa [h1, eq_comm] using hy
      subst h2
      rw [if_neg h1, if_pos rfl, List.idxOf_append, if_neg hn]
      simp
theorem loop_fp (Qf : Fl → List Bd → Prop) : ∀ (suf pre : List (Option PySem.Str)) (ks : List PySem.Str) (vs : List PV) (t2 t3 : Bd), pre.length + suf.length ≤ 10 → NmTab pre ks vs →
    (∀ ks vs t2 t3, NmTab (pre ++ suf) ks vs → Qf .next [.v (.list ((pre ++ suf).map oS)), .os ks vs, t2, t3, .u, .u]) →
    wpFor (kBody (Ct σ) k [.asg 3 (.idx (.var 0) (.var 2)), .ite (.and (.cmp .IsNot (.var 3) (.lit .none)) (.and (.cmp .NotEq (.var 3) (.lit (.str ""))) (.inv .NotIn (.var 3) 1))) [.seti 1 (.var 3) (.var 2)] []]) 2
      ((List.range' pre.length suf.length).map fun i : Nat => PV.int i) [.v (.list ((pre ++ suf).map oS)), .os ks vs, t2, t3, .u, .u] Qf
  | [], pre, ks, vs, t2, t3, hl, T, h => by
    have := h ks vs t2 t3 (by rwa [List.append_nil])
    simpa [wf_n, wf_c, wf_1, wf_2, wf_3] using this
  | a :: suf, pre, ks, vs, t2, t3, hl, T, h => by
    simp only [List.length_cons] at hl
    have hg : (pre ++ a :: suf)[pre.length]? = some a := by simp
    have e : pre ++ a :: suf = (pre ++ [a]) ++ suf := by simp
    have ih := fun ks vs T => loop_fp Qf suf (pre ++ [a]) ks vs (.v (.int pre.length)) (.v (oS a)) (by simp; omega) T (by rwa [← e])
    rw [← e] at ih
    simp only [List.length_append, List.length_cons, List.length_nil] at ih
    have h1 : (pre.length : Int) < 1099511627776 := by omega
    have h2 : ks.length ≤ 1048576 := by have := T.le; omega
    rw [List.length_cons, List.range'_succ, List.map_cons]
    generalize hw : pre ++ a :: suf = w at *
    simp [-getElem?_pos, wf_c, wf_1, wf_2, wf_3, hg, h1]
    match a, ih with
    | none, ih => simp [-getElem?_pos, oS]; simpa [oS] using ih _ _ (T.skip (by simp))
    | some x, ih =>
      by_cases hx : x = ""
      · subst hx
        simp [-getElem?_pos, oS, str_inj]; simpa [oS] using ih _ _ (T.skip (by simp))
      · by_cases hm : x ∈ ks
        · simp [-getElem?_pos, oS, hx, hm]; simpa [oS] using ih _ _ (T.skip (by rintro y ⟨⟩; exact .inr hm))
        · simp [-getElem?_pos, oS, hx, hm, h2]; simpa [oS] using ih _ _ (T.add hx hm)
noncomputable def nmP : Option (List (Option PySem.Str)) → PV
  | none => .none | some l => .list (l.map oS)
theorem ct_first_places (W : Wd σ) {nm : Option (List (Option PySem.Str))} (hl : ∀ l, nm = some l → l.length ≤ 10) (h : ∀ ks vs, NmTab (nm.getD []) ks vs → Q (.sd ks vs)) : Ct σ (k + 1) 117 [nmP nm] Q R := by
  refine W.ct (is_first_places W.kk) rfl ?_
  cases nm with
  | none => simp [-getElem?_pos, ir_first_places, nmP]; exact h _ _ .nil
  | some l =>
    have := hl l rfl
    simp [-getElem?_pos, ir_first_places, nmP]
    refine ⟨by omega, by omega, ?_⟩
    rw [rngL_nat, List.range_eq_range']
    refine loop_fp _ l [] [] [] .u .u (by simpa using this) .nil fun ks vs t2 t3 T => ?_
    simp [-getElem?_pos]
    exact h ks vs T
noncomputable def namePl (texts : List (Option PySem.Str)) (names : List (Option PySem.Str)) : List (Option Nat) := texts.map fun x => match x with
  | none => none | some x => if x ≠ "" ∧ some x ∈ names then some (names.idxOf (some x)) else none
theorem loop_np {names : List (Option PySem.Str)} {ks vs} (T : NmTab names ks vs) {p q : PV} (Qf : Fl → List Bd → Prop) : ∀ (l : List (Option PySem.Str)) (acc : List PV) (t : Bd), acc.length + l.length ≤ 2 ^ 20 →
    (∀ t, Qf .next [.v p, .v q, .v (.sd ks vs), .ol (acc ++ (namePl l names).map oN), t, .u]) →
    wpFor (kBody (Ct σ) k [.ite (.and (.cmp .IsNot (.var 4) (.lit .none)) (.cmp .In (.var 4) (.var 2))) [.app 3 (.idx (.var 2) (.var 4))] [.app 3 (.lit .none)]]) 4 (l.map oS) [.v p, .v q, .v (.sd ks vs), .ol acc, t, .u] Qf
  | [], acc, t, _, h => by simpa [wf_n, wf_c, wf_1, wf_2, wf_3, namePl] using h t
  | a :: l, acc, t, hl, h => by
    simp only [List.length_cons] at hl
    have h3 : acc.length ≤ 1048576 := by omega
    have ih := fun a => loop_np T (p := p) (q := q) Qf l (acc ++ [a])
    match a, h, ih with
    | none, h, ih => simp [-getElem?_pos, wf_c, wf_1, wf_2, wf_3, oS, h3]; exact ih _ _ (by simp; omega) (by simpa [namePl, oN] using h)
    | some x, h, ih =>
      by_cases hm : x ∈ ks
      · have := (T.mem x).mp hm
        simp [-getElem?_pos, wf_c, wf_1, wf_2, wf_3, oS, h3, hm, T.get x hm]; exact ih _ _ (by simp; omega) (by simpa [namePl, oN, this] using h)
      · have : ¬ (x ≠ "" ∧ some x ∈ names) := fun e => hm ((T.mem x).mpr ⟨e.2, e.1⟩)
        simp [-getElem?_pos, wf_c, wf_1, wf_2, wf_3, oS, h3, hm]; exact ih _ _ (by simp; omega) (by
          have e : (if x ≠ "" ∧ some x ∈ names then some (names.idxOf (some x)) else none) = (none : Option Nat) := if_neg this
          simp only [namePl, List.map_cons, e, oN] at h
          simpa [namePl, oN] using h)
theorem ct_name_places (W : Wd σ) {l : List (Option PySem.Str)} {nm : Option (List (Option PySem.Str))} (hl : ∀ l, nm = some l → l.length ≤ 10) (hl2 : l.length ≤ 10) (h : Q (.list ((namePl l (nm.getD [])).map oN))) : Ct σ (k + 2) 124 [.list (l.map oS), nmP nm] Q R := by
  refine W.ct (is_name_places W.kk) rfl ?_
  simp [-getElem?_pos, ir_name_places]
  refine ct_first_places W hl fun ks vs T => ?_
  simp [-getElem?_pos]
  refine loop_np T _ l [] .u (by simp; omega) fun t => ?_
  simp [-getElem?_pos]
  exact h
end
end Mine

end
section
open PySem PySem.W PySem.Calls PyProof.Rows PySem.Spec
set_option Elab.async false
set_option maxRecDepth 100000
set_option linter.unusedVariables false
set_option linter.unusedSimpArgs false
namespace Mine
inductive Ix where
  | mis | nul | lgl (l : List (Option Int)) | int (l : List (Option Int)) | dbl (l : List (Option (Int × Int))) | chr (l : List (Option PySem.Str)) | lst
noncomputable def Ix.P : Ix → PV
  | .mis => .missing | .nul => .null
  | .lgl l => .vec "logical" (.list (l.map oI)) .none
  | .int l => .vec "integer" (.list (l.map oI)) .none
  | .dbl l => .vec "double" (.list (l.map oP)) .none
  | .chr l => .vec "character" (.list (l.map oS)) .none
  | .lst => .vec "list" (.list []) .none
noncomputable def Ix.ok : Ix → Prop
  | .lgl l => l.length ≤ 10 ∧ ∀ i, some i ∈ l → i = 0 ∨ i = 1
  | .int l => l.length ≤ 10 | .dbl l => l.length ≤ 10 ∧ okP l | .chr l => l.length ≤ 10 | _ => True
noncomputable def plOf (ix : Ix) (n : Nat) (names : List (Option PySem.Str)) : Except PySem.Str (List (Option Nat)) := match ix with
  | .mis => .ok ((List.range n).map some)
  | .nul => .ok []
  | .lgl l => .ok (lglPl l n)
  | .int l => wholePl l n
  | .dbl l => wholePl (l.map whole) n
  | .chr l => .ok (namePl l names)
  | .lst => .error "invalid subscript type 'list'"
section
variable {σ : Sig} {k : Nat} {Q : PV → Prop} {R : PySem.Str → Prop}
theorem rngL_oN {n : Nat} : rngL (n : Int) = ((List.range n).map some).map oN := by
  rw [rngL_nat, List.map_map]; rfl
theorem ct_positions (W : Wd σ) {ix : Ix} {n : Nat} {nm : Option (List (Option PySem.Str))} (hix : ix.ok) (hn : n ≤ 10) (hl : ∀ l, nm = some l → l.length ≤ 10) (h : ExP (plOf ix n (nm.getD [])) (fun pl => Q (.tup [.list (pl.map oN), .none])) R) :
    Ct σ (k + 6) 138 [ix.P, .int n, nmP nm, .bool false] Q R := by
  refine W.ct (is_positions W.kk) rfl ?_
  cases ix with
  | mis =>
    simp [-getElem?_pos, ir_positions, Ix.P]
    refine ⟨by omega, ?_⟩
    rw [rngL_oN]
    exact h
  | nul =>
    simp [-getElem?_pos, ir_positions, Ix.P, str_inj]
    exact h
  | lgl l =>
    simp [-getElem?_pos, ir_positions, Ix.P, str_inj]
    refine ct_logical_places W hix.1 hn ?_
    simp [-getElem?_pos]
    exact h
  | int l =>
    simp [-getElem?_pos, ir_positions, Ix.P, str_inj]
    refine ct_ws_int W ?_
    simp [-getElem?_pos]
    refine ct_whole_places W hix hn ?_
    cases hp : wholePl l n with
    | ok pl => rw [plOf, hp] at h; simp only [ExP] at h ⊢; simp [-getElem?_pos]; exact h
    | error e => rw [plOf, hp] at h; simp only [ExP] at h ⊢; exact h
  | dbl l =>
    simp [-getElem?_pos, ir_positions, Ix.P, str_inj]
    refine ct_ws_dbl W hix.2 hix.1 ?_
    simp [-getElem?_pos]
    rw [show List.map (fun x => oI (whole x)) l = (l.map whole).map oI by rw [List.map_map]; rfl]
    refine ct_whole_places W (by simpa using hix.1) hn ?_
    cases hp : wholePl (l.map whole) n with
    | ok pl => rw [plOf, hp] at h; simp only [ExP] at h ⊢; simp [-getElem?_pos]; exact h
    | error e => rw [plOf, hp] at h; simp only [ExP] at h ⊢; exact h
  | chr l =>
    simp [-getElem?_pos, ir_positions, Ix.P, str_inj]
    refine ct_name_places W hl hix ?_
    simp [-getElem?_pos]
    exact h
  | lst =>
    simp [-getElem?_pos, ir_positions, Ix.P, str_inj]
    refine ⟨by decide +kernel, by decide +kernel, ?_⟩
    rw [show Str.ofString "invalid subscript type '" ++ Str.ofString "list" ++ Str.ofString "'" = Str.ofString "invalid subscript type 'list'" from by decide +kernel]
    exact h
/-! the law's own reading -/
theorem loop_ci {p : PV} {kd : PySem.Str} (hk : kd ≠ "double") (Qf : Fl → List Bd → Prop) : ∀ (l : List (Option Int)) (acc : List PV) (t : Bd), acc.length + l.length ≤ 2 ^ 20 → (∀ t, Qf .next [.v (.str kd), .v p, .ol (acc ++ l.map oI), t]) →
    wpFor (kBody (Ct σ) k [.ite (.or (.cmp .Is (.var 3) (.lit .none)) (.and (.cmp .Eq (.var 0) (.lit (.str "double"))) (.cmp .Eq (.idx (.var 3) (.lit (.int 1))) (.lit (.int 0))))) [.app 2 (.lit .none)] [.ite (.cmp .Eq (.var 0) (.lit (.str "double"))) [.app 2 (.ite (.cmp .GtE (.idx (.var 3) (.lit (.int 0))) (.lit (.int 0))) (.bin .FloorDiv (.idx (.var 3) (.lit (.int 0))) (.idx (.var 3) (.lit (.int 1)))) (.neg (.bin .FloorDiv (.neg (.idx (.var 3) (.lit (.int 0)))) (.idx (.var 3) (.lit (.int 1))))))] [.app 2 (.var 3)]]]) 3 (l.map oI) [.v (.str kd), .v p, .ol acc, t] Qf
  | [], acc, t, _, h => by simpa [wf_n, wf_c, wf_1, wf_2, wf_3] using h t
  | a :: l, acc, t, hl, h => by
    simp only [List.length_cons] at hl
    have h3 : acc.length ≤ 1048576 := by omega
    have ih := fun a => loop_ci (p := p) hk Qf l (acc ++ [a])
    match a, h, ih with
    | none, h, ih => simp [-getElem?_pos, wf_c, wf_1, wf_2, wf_3, oI, h3]; exact ih _ _ (by simp; omega) (by simpa [oI] using h)
    | some x, h, ih => simp [-getElem?_pos, wf_c, wf_1, wf_2, wf_3, oI, h3, hk]; exact ih _ _ (by simp; omega) (by simpa [oI] using h)
theorem loop_cd {p : PV} (Qf : Fl → List Bd → Prop) : ∀ (l : List (Option (Int × Int))) (acc : List PV) (t : Bd), okP l → acc.length + l.length ≤ 2 ^ 20 → (∀ t, Qf .next [.v (.str "double"), .v p, .ol (acc ++ (l.map whole).map oI), t]) →
    wpFor (kBody (Ct σ) k [.ite (.or (.cmp .Is (.var 3) (.lit .none)) (.and (.cmp .Eq (.var 0) (.lit (.str "double"))) (.cmp .Eq (.idx (.var 3) (.lit (.int 1))) (.lit (.int 0))))) [.app 2 (.lit .none)] [.ite (.cmp .Eq (.var 0) (.lit (.str "double"))) [.app 2 (.ite (.cmp .GtE (.idx (.var 3) (.lit (.int 0))) (.lit (.int 0))) (.bin .FloorDiv (.idx (.var 3) (.lit (.int 0))) (.idx (.var 3) (.lit (.int 1)))) (.neg (.bin .FloorDiv (.neg (.idx (.var 3) (.lit (.int 0)))) (.idx (.var 3) (.lit (.int 1))))))] [.app 2 (.var 3)]]]) 3 (l.map oP) [.v (.str "double"), .v p, .ol acc, t] Qf
  | [], acc, t, _, _, h => by simpa [wf_n, wf_c, wf_1, wf_2, wf_3] using h t
  | a :: l, acc, t, ok, hl, h => by
    simp only [List.length_cons] at hl
    have h3 : acc.length ≤ 1048576 := by omega
    have ih := fun a t => loop_cd (p := p) Qf l (acc ++ [a]) t fun a b hm => ok a b (.tail _ hm)
    match a, ok, h, ih with
    | none, _, h, ih => simp [-getElem?_pos, wf_c, wf_1, wf_2, wf_3, oP, h3]; exact ih _ _ (by simp; omega) (by simpa [oI, whole] using h)
    | some (a, b), ok, h, ih =>
      simp [-getElem?_pos, wf_c, wf_1, wf_2, wf_3, oP, h3]
      refine ⟨fun hb => ih _ _ (by simp; omega) (by simpa [oI, whole, hb] using h), fun hb => ⟨fun ha => ⟨hb, ?_, ih _ _ (by simp; omega) (by simpa [oI, whole, hb, ha] using h)⟩, fun ha => ⟨hb, ?_, ih _ _ (by simp; omega) (by simpa [oI, whole, hb, show ¬ 0 ≤ a by omega] using h)⟩⟩⟩
      all_goals
        rcases ok a b (.head _) with h0 | ⟨h1, h2⟩
        · exact absurd h0 hb
        · omega
theorem ct_cut_int (W : Wd σ) {l : List (Option Int)} (hl : l.length ≤ 10) (h : Q (.list (l.map oI))) : Ct σ (k + 1) 474 [.str "integer", .list (l.map oI)] Q R := by
  refine W.ct (is_law_cut W.kk) rfl ?_
  simp [-getElem?_pos, ir_law_cut]
  refine loop_ci (by rw [Ne, str_inj]; decide) _ l [] .u (by simp; omega) fun t => ?_
  simp [-getElem?_pos]
  exact h
theorem ct_cut_dbl (W : Wd σ) {l : List (Option (Int × Int))} (ok : okP l) (hl : l.length ≤ 10) (h : Q (.list ((l.map whole).map oI))) : Ct σ (k + 1) 474 [.str "double", .list (l.map oP)] Q R := by
  refine W.ct (is_law_cut W.kk) rfl ?_
  simp [-getElem?_pos, ir_law_cut]
  refine loop_cd _ l [] .u ok (by simp; omega) fun t => ?_
  simp [-getElem?_pos]
  simpa using h
noncomputable def duP (r : Except PySem.Str (List (Option Nat))) : PV := match r with
  | .ok pl => .tup [.list (pl.map oN), .none] | .error e => .str e
theorem loop_dl {l : List (Option Int)} (h01 : ∀ i, some i ∈ l → i = 0 ∨ i = 1) (hl : l ≠ []) (hl2 : l.length ≤ 10) {a b c d at' : PV} {us : List Bd} (Qf : Fl → List Bd → Prop) : ∀ (is : List Nat) (acc : List PV) (t4 t5 : Bd), acc.length + is.length ≤ 2 ^ 20 →
    (∀ t4 t5, Qf .next (.v (.vec "logical" (.list (l.map oI)) at') :: .v a :: .v b :: .v c :: .v d :: .ol (acc ++ (is.filterMap (lglF l)).map oN) :: t4 :: t5 :: us)) →
    wpFor (kBody (Ct σ) k [.asg 7 (.idx (.fld .items (.var 0)) (.bin .Mod (.var 6) (.bi .len (.fld .items (.var 0))))), .ite (.cmp .NotEq (.var 7) (.lit (.int 0))) [.app 5 (.ite (.cmp .Eq (.var 7) (.lit (.int 1))) (.var 6) (.lit .none))] []]) 6
      (is.map fun i : Nat => PV.int i) (.v (.vec "logical" (.list (l.map oI)) at') :: .v a :: .v b :: .v c :: .v d :: .ol acc :: t4 :: t5 :: us) Qf
  | [], acc, t4, t5, _, h => by simpa [wf_n, wf_c, wf_1, wf_2, wf_3] using h t4 t5
  | i :: is, acc, t4, t5, hb, h => by
    simp only [List.length_cons] at hb
    obtain ⟨x, hx⟩ := idx_mod hl i
    have hpos : 0 < l.length := List.length_pos_iff.mpr hl
    have hm : i % l.length < l.length := Nat.mod_lt _ hpos
    have hf : (i : Int).fmod l.length = ((i % l.length : Nat) : Int) := fmod_nat
    have hg : l[((i : Int).fmod l.length).toNat]? = some x := by rw [hf, Int.toNat_natCast]; exact hx
    have h1 : (0 : Int) ≤ (i : Int).fmod l.length := by rw [hf]; omega
    have h2 : (i : Int).fmod l.length < 1099511627776 := by rw [hf]; omega
    have ih := fun z => loop_dl h01 hl hl2 (a := a) (b := b) (c := c) (d := d) (at' := at') (us := us) Qf is (acc ++ z) (.v (.int i)) (.v (oI x))
    rw [List.filterMap_cons] at h
    simp only [lglF, hx] at h
    have h3 : acc.length ≤ 1048576 := by omega
    have h4 : l.length < 1099511627776 := by omega
    simp [-getElem?_pos, wf_c, wf_1, wf_2, wf_3, h1, h2, hg, hl, h4]
    match x, h, ih, hx with
    | none, h, ih, hx =>
      simp [-getElem?_pos, oI, h3]
      exact ih [.none] (by simp; omega) (by simpa [oN, oI] using h)
    | some x, h, ih, hx =>
      rcases h01 x (List.mem_of_getElem? hx) with rfl | rfl
      · simp [-getElem?_pos, oI]
        simpa [oI] using ih [] (by simp; omega) (by simpa using h)
      · simp [-getElem?_pos, oI, h3]
        exact ih [.int i] (by simp; omega) (by simpa [oN] using h)
theorem loop_dc {nm : Option (List (Option PySem.Str))} (hl0 : ∀ l, nm = some l → l.length ≤ 10) {a b d : PV} {t6 : Bd} {us : List Bd} (Qf : Fl → List Bd → Prop) : ∀ (l : List (Option PySem.Str)) (acc : List PV) (t7 t9 : Bd), acc.length + l.length ≤ 2 ^ 20 →
    (∀ t7 t9, Qf .next (.v a :: .v b :: .v (nmP nm) :: .v (.bool false) :: .v d :: .ol (acc ++ (namePl l (nm.getD [])).map oN) :: t6 :: t7 :: .ol [] :: t9 :: us)) →
    wpFor (kBody (Ct σ) k [.asg 9 (.and (.cmp .IsNot (.var 7) (.lit .none)) (.cmp .NotEq (.var 7) (.lit (.str "")))), .ite (.and (.var 9) (.and (.cmp .IsNot (.var 2) (.lit .none)) (.cmp .In (.var 7) (.var 2)))) [.app 5 (.lidx (.var 2) (.var 7))] [.ite (.not (.var 3)) [.app 5 (.lit .none)] [.ite (.and (.var 9) (.inv .In (.var 7) 8)) [.frz 8, .app 5 (.bin .Add (.var 1) (.lidx (.var 8) (.var 7)))] [.frz 8, .app 5 (.bin .Add (.var 1) (.bi .len (.var 8))), .app 8 (.var 7)]]]]) 7
      (l.map oS) (.v a :: .v b :: .v (nmP nm) :: .v (.bool false) :: .v d :: .ol acc :: t6 :: t7 :: .ol [] :: t9 :: us) Qf
  | [], acc, t7, t9, _, h => by simpa [wf_n, wf_c, wf_1, wf_2, wf_3, namePl] using h t7 t9
  | x :: l, acc, t7, t9, hl, h => by
    simp only [List.length_cons] at hl
    have h3 : acc.length ≤ 1048576 := by omega
    have ih := fun z => loop_dc hl0 (a := a) (b := b) (d := d) (t6 := t6) (us := us) Qf l (acc ++ [z])
    match x, h, ih with
    | none, h, ih => simp [-getElem?_pos, wf_c, wf_1, wf_2, wf_3, oS, h3]; exact ih _ _ _ (by simp; omega) (by simpa [namePl, oN] using h)
    | some x, h, ih =>
      by_cases hx : x = ""
      · subst hx
        simp [-getElem?_pos, wf_c, wf_1, wf_2, wf_3, oS, h3, str_inj]; exact ih _ _ _ (by simp; omega) (by simpa [namePl, oN] using h)
      · cases nm with
        | none => simp [-getElem?_pos, wf_c, wf_1, wf_2, wf_3, oS, h3, hx, nmP]; exact ih _ _ _ (by simp; omega) (by simpa [namePl, oN] using h)
        | some ns =>
          have hnl := hl0 ns rfl
          by_cases hm : some x ∈ ns
          · simp [-getElem?_pos, wf_c, wf_1, wf_2, wf_3, oS, h3, hx, nmP, hm, lidx_names hm]; exact ⟨by omega, ih _ _ _ (by simp; omega) (by simpa [namePl, oN, hm, hx] using h)⟩
          · simp [-getElem?_pos, wf_c, wf_1, wf_2, wf_3, oS, h3, hx, nmP, hm]; exact ih _ _ _ (by simp; omega) (by simpa [namePl, oN, hm, hx] using h)
theorem lc_gen {α : Type} {f : α → PV} {g : α → Option PV} {ρ : List Bd} {elt : IE} {cond : Option IE} (Q : List PV → Prop) : ∀ (l : List α) (acc : List PV), (∀ a ∈ l, ∀ K, K (g a) → kLcB (Ct σ) k ρ elt cond (f a) K) → Q (acc ++ l.filterMap g) → wpLc (kLcB (Ct σ) k ρ elt cond) (l.map f) acc Q
  | [], acc, _, h => by simpa [wl_n, wl_c] using h
  | a :: l, acc, hg, h => by
    rw [List.map_cons, wpLc]
    refine hg a (.head _) _ ?_
    have hg' := fun a h => hg a (.tail _ h)
    cases hga : g a with
    | none => exact lc_gen Q l acc hg' (by simpa [hga] using h)
    | some y => exact lc_gen Q l _ hg' (by simpa [hga] using h)
noncomputable def gNeg (x : Option Int) : Option PV := match x with | none => none | some i => if i < 0 then some (.int i) else none
noncomputable def gNz (x : Option Int) : Option PV := match x with | none => some .none | some i => if i = 0 then none else some (.int (i - 1))
theorem posPl_eq : ∀ (l : List (Option Int)), (∀ i, some i ∈ l → 0 ≤ i) → l.filterMap gNz = (posPl l).map oN
  | [], _ => rfl
  | none :: l, h => by
    have ih := posPl_eq l fun i hi => h i (.tail _ hi)
    simp only [posPl] at ih ⊢
    simp [gNz, oN, ih]
  | some i :: l, h => by
    have ih := posPl_eq l fun i hi => h i (.tail _ hi)
    have h0 := h i (.head _)
    simp only [posPl] at ih ⊢
    by_cases hi : i = 0
    · simp [gNz, hi, ih]
    · have h2 : 0 < i := by omega
      simp [gNz, hi, h2, oN, ih]; omega
theorem ints_eq : ∀ (l : List (Option Int)), none ∉ l → l.map oI = (l.filterMap id).map PV.int
  | [], _ => rfl
  | none :: l, h => absurd (.head _) h
  | some i :: l, h => by simpa [oI] using ints_eq l fun e => h (.tail _ e)
theorem due_num {n : Nat} {a c d e : PV} {t5 t6 t7 t8 t9 t11 : Bd} {l : List (Option Int)} (hl : l.length ≤ 10) (hn : n ≤ 10) (h : Q (duP (wholePl l n))) :
    wpSs (Ct σ) k [.v a, .v (.int n), .v c, .v d, .v e, t5, t6, t7, t8, t9, .v (.list (l.map oI)), t11, .u, .u, .u, .u, .u]
      [.asg 11 (.lc 17 (.var 17) (.var 10) (some (.and (.cmp .IsNot (.var 17) (.lit .none)) (.cmp .Lt (.var 17) (.lit (.int 0)))))),
  .ite (.cmp .Eq (.var 11) (.list [])) [.ret (.tup [(.lc 17 (.ite (.cmp .Is (.var 17) (.lit .none)) (.lit .none) (.bin .Sub (.var 17) (.lit (.int 1)))) (.var 10) (some (.cmp .NotEq (.var 17) (.lit (.int 0))))), (.lit .none)])] [],
  .ite (.cmp .In (.lit .none) (.var 10)) [.ret (.lit (.str "can't mix NAs with negative subscripts"))] [],
  .ite (.cmp .Gt (.bi .max (.var 10)) (.lit (.int 0))) [.ret (.lit (.str "can't mix positive and negative subscripts"))] [],
  .ret (.tup [(.lc 17 (.var 17) (.bi .range (.var 1)) (some (.cmp .NotIn (.bin .Sub (.neg (.var 17)) (.lit (.int 1))) (.var 10)))), (.lit .none)])] (retQ Q) R := by
  simp [-getElem?_pos]
  refine ⟨by omega, ?_⟩
  refine lc_gen (g := gNeg) _ l [] (fun x _ K hK => ?_) ?_
  · cases x with
    | none => simp [-getElem?_pos, oI]; exact hK
    | some i =>
      by_cases hi : i < 0
      · simp [-getElem?_pos, oI, hi]; simpa [gNeg, hi] using hK
      · simp [-getElem?_pos, oI, hi]; simpa [gNeg, hi] using hK
  · simp [-getElem?_pos]
    unfold wholePl at h
    refine ⟨fun h0 => ⟨by omega, ?_⟩, fun x0 hx0 h0 => ⟨fun h1 => ?_, fun h1 => ?_⟩⟩
    · have hp : ∀ i, some i ∈ l → 0 ≤ i := fun i hi => by
        have := h0 _ hi
        simp [gNeg] at this; omega
      rw [if_pos hp] at h
      refine lc_gen (g := gNz) _ l [] (fun x _ K hK => ?_) ?_
      · cases x with
        | none => simp [-getElem?_pos, oI]; exact hK
        | some i =>
          by_cases hi : i = 0
          · simp [-getElem?_pos, oI, hi]; simpa [gNz, hi] using hK
          · simp [-getElem?_pos, oI, hi]; simpa [gNz, hi] using hK
      · simp [-getElem?_pos]
        rw [posPl_eq l hp]
        simpa only [duP] using h
    all_goals
      have hp : ¬ ∀ i, some i ∈ l → 0 ≤ i := fun hp => by
        cases x0 with
        | none => exact h0 rfl
        | some i => have := hp i hx0; exact h0 (by simp [gNeg]; omega)
      rw [if_neg hp] at h
    · rw [if_pos h1] at h
      simpa only [duP, mNA] using h
    · rw [if_neg h1] at h
      refine ⟨l.filterMap id, ?_, ?_, fun m hm hmax => ?_⟩
      · exact ints_eq l h1
      · intro e
        cases x0 with
        | none => exact h0 rfl
        | some i => have : i ∈ l.filterMap id := List.mem_filterMap.mpr ⟨_, hx0, rfl⟩; rw [e] at this; cases this
      · have hm' : some m ∈ l := by
          obtain ⟨a, ha, e⟩ := List.mem_filterMap.mp hm
          simpa using e ▸ ha
        refine ⟨fun h2 => ?_, fun h2 => ⟨by omega, by rw [rngL_nat]; simp; omega, ?_⟩⟩
        · rw [if_pos ⟨m, hm', h2⟩] at h
          simpa only [duP, mPN] using h
        · rw [if_neg (fun ⟨i, hi, h3⟩ => by have := hmax i (List.mem_filterMap.mpr ⟨_, hi, rfl⟩); omega)] at h
          rw [rngL_nat]
          refine lc_range (p := fun i : Nat => decide (some (-(i : Int) - 1) ∉ l)) _ (fun i T R => ?_) (fun i Q R => ?_) _ _ ?_
          · simp [-getElem?_pos]
          · simp [-getElem?_pos]
          · simp [-getElem?_pos]
            simpa [duP] using h
theorem ct_law_due (W : Wd σ) {ix : Ix} {n : Nat} {nm : Option (List (Option PySem.Str))} (hix : ix.ok) (hn : n ≤ 10) (hl : ∀ l, nm = some l → l.length ≤ 10) (h : Q (duP (plOf ix n (nm.getD [])))) :
    Ct σ (k + 2) 479 [ix.P, .int n, nmP nm, .bool false] Q R := by
  refine W.ct (is_law_due W.kk) rfl ?_
  cases ix with
  | mis =>
    simp [-getElem?_pos, ir_law_due, Ix.P]
    refine ⟨by omega, ?_⟩
    rw [rngL_oN]
    exact h
  | nul =>
    simp [-getElem?_pos, ir_law_due, Ix.P, str_inj]
    exact h
  | lst =>
    simp [-getElem?_pos, ir_law_due, Ix.P, str_inj]
    exact h
  | lgl l =>
    simp [-getElem?_pos, ir_law_due, Ix.P, str_inj]
    have hix' : l.length ≤ 10 ∧ ∀ i, some i ∈ l → i = 0 ∨ i = 1 := hix
    refine ⟨fun h0 => ?_, fun h0 => ?_⟩
    · rw [max_nat]
      refine ⟨by omega, ⟨by omega, by omega⟩, ?_⟩
      rw [rngL_nat]
      refine loop_dl hix'.2 h0 hix'.1 _ _ [] .u .u (by simp; omega) fun t4 t5 => ?_
      simp [-getElem?_pos]
      simpa [plOf, duP, lglPl, h0] using h
    · subst h0
      simp [-getElem?_pos, rngL, wf_c, wf_1, wf_2, wf_3]
      simpa [plOf, duP, lglPl] using h
  | chr l =>
    simp [-getElem?_pos, ir_law_due, Ix.P, str_inj]
    refine loop_dc hl _ l [] _ _ (by have : l.length ≤ 10 := hix; simp; omega) fun t7 t9 => ?_
    simp [-getElem?_pos]
    exact h
  | int l =>
    simp [-getElem?_pos, ir_law_due, Ix.P, str_inj]
    exact ct_cut_int W hix (due_num hix hn h)
  | dbl l =>
    simp [-getElem?_pos, ir_law_due, Ix.P, str_inj]
    exact ct_cut_dbl W hix.2 hix.1 (due_num (l := l.map whole) (by simpa using hix.1) hn h)
end
end Mine

end
section
open PySem PySem.W PySem.Calls PyProof.Rows PySem.Spec
set_option Elab.async false
set_option maxRecDepth 100000
set_option linter.unusedVariables false
set_option linter.unusedSimpArgs false
namespace Mine
noncomputable def Kd (kd : PySem.Str) : Prop := kd = "integer" ∨ kd = "logical" ∨ kd = "double" ∨ kd = "character" ∨ kd = "list"
noncomputable def lack (kd : PySem.Str) : PV := if kd = "list" then .null else .none
noncomputable def itemsAt (kd : PySem.Str) (items : List PV) (pl : List (Option Nat)) : List PV := pl.map fun x => match x with
  | none => lack kd | some j => items[j]?.getD (lack kd)
noncomputable def namesAt (names : List (Option PySem.Str)) (pl : List (Option Nat)) : List (Option PySem.Str) := pl.map fun x => match x with
  | none => some "<NA>" | some j => names[j]?.getD (some "<NA>")
noncomputable def vP (kd : PySem.Str) (items : List PV) (nm : Option (List (Option PySem.Str))) (u : Bool) : PV := .vec kd (.list items) (attrsP (nm.map (·.map oS)) u)
section
variable {σ : Sig} {k : Nat} {Q : PV → Prop} {R : PySem.Str → Prop}
theorem ct_lacking_item (W : Wd σ) {kd : PySem.Str} (hk : Kd kd) (h : Q (lack kd)) : Ct σ (k + 4) 314 [.str kd] Q R := by
  refine W.ct (is_lacking_item W.kk) rfl ?_
  rcases hk with rfl | rfl | rfl | rfl | rfl
  all_goals simp [-getElem?_pos, ir_lacking_item, str_inj]
  all_goals simp [lack, str_inj] at h
  case inr.inr.inr.inr => exact W.nul h
  all_goals exact h
theorem ct_result_kind (W : Wd σ) {kd : PySem.Str} (hk : Kd kd) (h : Q (.str kd)) : Ct σ (k + 1) 328 [.str kd] Q R := by
  refine W.ct (is_result_kind W.kk) rfl ?_
  rcases hk with rfl | rfl | rfl | rfl | rfl <;> simp [-getElem?_pos, ir_result_kind, str_inj] <;> exact h
theorem loop_ia (W : Wd σ) {kd : PySem.Str} (hk : Kd kd) {items : List PV} (hn : items.length ≤ 10) {at' p : PV} {us : List Bd} (Qf : Fl → List Bd → Prop) : ∀ (l : List (Option Nat)) (acc : List PV) (t : Bd), acc.length + l.length ≤ 2 ^ 20 →
    (∀ t, Qf .next (.v (.vec kd (.list items) at') :: .v p :: .ol (acc ++ itemsAt kd items l) :: .v (.int (items.length : Nat)) :: t :: us)) →
    wpFor (kBody (Ct σ) (k + 4) [.ite (.or (.cmp .Is (.var 4) (.lit .none)) (.cmp .GtE (.var 4) (.var 3))) [.app 2 (.call 314 [(.fld .kind (.var 0))])] [.app 2 (.idx (.fld .items (.var 0)) (.var 4))]]) 4
      (l.map oN) (.v (.vec kd (.list items) at') :: .v p :: .ol acc :: .v (.int (items.length : Nat)) :: t :: us) Qf
  | [], acc, t, _, h => by simpa [wf_n, wf_c, wf_1, wf_2, wf_3, itemsAt] using h t
  | x :: l, acc, t, hl, h => by
    simp only [List.length_cons] at hl
    have h3 : acc.length ≤ 1048576 := by omega
    have ih := fun z => loop_ia W hk hn (at' := at') (p := p) (us := us) Qf l (acc ++ [z])
    match x, h, ih with
    | none, h, ih =>
      simp [-getElem?_pos, wf_c, wf_1, wf_2, wf_3, oN, h3]
      refine ct_lacking_item W hk ?_
      simp [-getElem?_pos, h3]
      exact ih _ _ (by simp; omega) (by simpa [itemsAt] using h)
    | some j, h, ih =>
      by_cases hj : j < items.length
      · have h1 : ¬ items.length ≤ j := by omega
        have h2 : items[j]? = some items[j] := List.getElem?_eq_getElem hj
        have h4 : (j : Int) < 1099511627776 := by omega
        simp [-getElem?_pos, wf_c, wf_1, wf_2, wf_3, oN, h3, h1, h2, h4]
        exact ih _ _ (by simp; omega) (by simpa [itemsAt, h2] using h)
      · have h1 : items.length ≤ j := by omega
        simp [-getElem?_pos, wf_c, wf_1, wf_2, wf_3, oN, h3, h1]
        refine ct_lacking_item W hk ?_
        simp [-getElem?_pos, h3]
        exact ih _ _ (by simp; omega) (by simpa [itemsAt, h1] using h)
theorem ct_items_at (W : Wd σ) {kd : PySem.Str} (hk : Kd kd) {items : List PV} (hn : items.length ≤ 10) {at' : PV} {pl : List (Option Nat)} (hl : pl.length ≤ 10) (h : Q (.list (itemsAt kd items pl))) :
    Ct σ (k + 5) 335 [.vec kd (.list items) at', .list (pl.map oN)] Q R := by
  refine W.ct (is_items_at W.kk) rfl ?_
  simp [-getElem?_pos, ir_items_at]
  refine ⟨by omega, loop_ia W hk hn _ pl [] .u (by simp; omega) fun t => ?_⟩
  simp [-getElem?_pos]
  exact h
theorem loop_na {names : List (Option PySem.Str)} (hn : names.length ≤ 10) {p : PV} {us : List Bd} (Qf : Fl → List Bd → Prop) : ∀ (l : List (Option Nat)) (acc : List PV) (t : Bd), acc.length + l.length ≤ 2 ^ 20 →
    (∀ t, Qf .next (.v (.list (names.map oS)) :: .v p :: .ol (acc ++ (namesAt names l).map oS) :: t :: us)) →
    wpFor (kBody (Ct σ) k [.ite (.or (.cmp .Is (.var 3) (.lit .none)) (.cmp .GtE (.var 3) (.bi .len (.var 0)))) [.app 2 (.lit (.str "<NA>"))] [.app 2 (.idx (.var 0) (.var 3))]]) 3
      (l.map oN) (.v (.list (names.map oS)) :: .v p :: .ol acc :: t :: us) Qf
  | [], acc, t, _, h => by simpa [wf_n, wf_c, wf_1, wf_2, wf_3, namesAt] using h t
  | x :: l, acc, t, hl, h => by
    simp only [List.length_cons] at hl
    have h3 : acc.length ≤ 1048576 := by omega
    have h5 : names.length < 1099511627776 := by omega
    have ih := fun z => loop_na hn (p := p) (us := us) Qf l (acc ++ [z])
    match x, h, ih with
    | none, h, ih =>
      simp [-getElem?_pos, wf_c, wf_1, wf_2, wf_3, oN, h3]
      exact ih _ _ (by simp; omega) (by simpa [namesAt, oS] using h)
    | some j, h, ih =>
      by_cases hj : j < names.length
      · have h1 : ¬ names.length ≤ j := by omega
        have h2 : names[j]? = some names[j] := List.getElem?_eq_getElem hj
        have h4 : (j : Int) < 1099511627776 := by omega
        simp [-getElem?_pos, wf_c, wf_1, wf_2, wf_3, oN, h3, h1, h2, h4, h5]
        exact ih _ _ (by simp; omega) (by simpa [namesAt, h2] using h)
      · have h1 : names.length ≤ j := by omega
        simp [-getElem?_pos, wf_c, wf_1, wf_2, wf_3, oN, h3, h1, h5]
        exact ih _ _ (by simp; omega) (by simpa [namesAt, h1, oS] using h)
theorem ct_names_at (W : Wd σ) {names : List (Option PySem.Str)} (hn : names.length ≤ 10) {pl : List (Option Nat)} (hl : pl.length ≤ 10) (h : Q (.list ((namesAt names pl).map oS))) :
    Ct σ (k + 1) 342 [.list (names.map oS), .list (pl.map oN)] Q R := by
  refine W.ct (is_names_at W.kk) rfl ?_
  simp [-getElem?_pos, ir_names_at]
  refine loop_na hn _ pl [] .u (by simp; omega) fun t => ?_
  simp [-getElem?_pos]
  exact h
theorem plOf_len {ix : Ix} (hix : ix.ok) {n : Nat} (hn : n ≤ 10) {names pl} (h : plOf ix n names = .ok pl) : pl.length ≤ 10 := by
  have hw : ∀ l : List (Option Int), l.length ≤ 10 → wholePl l n = .ok pl → pl.length ≤ 10 := by
    intro l hl h
    unfold wholePl at h
    split at h
    · injection h with h; subst h
      have : (posPl l).length ≤ l.length := by unfold posPl; exact List.length_filterMap_le ..
      omega
    · split at h
      · cases h
      · split at h
        · cases h
        · injection h with h; subst h
          have := List.length_filter_le (fun i : Nat => decide (some (-(i : Int) - 1) ∉ l)) (List.range n)
          simp only [List.length_map, List.length_range] at this ⊢; omega
  cases ix with
  | mis => injection h with h; subst h; simpa using hn
  | nul => injection h with h; subst h; simp
  | lst => cases h
  | lgl l =>
    injection h with h; subst h
    have h1 := hix.1
    unfold lglPl
    split
    · simp
    · have := List.length_filterMap_le (lglF l) (List.range (max n l.length))
      simp only [List.length_range] at this; omega
  | int l => exact hw l hix h
  | dbl l => exact hw _ (by simpa using hix.1) h
  | chr l => injection h with h; subst h; have h1 : l.length ≤ 10 := hix; simpa [namePl] using h1
theorem ct_subset_vector (W : Wd σ) {kd : PySem.Str} (hk : Kd kd) {items : List PV} (hn : items.length ≤ 10) {nm : Option (List (Option PySem.Str))} (hl : ∀ l, nm = some l → l.length ≤ 9) {u : Bool} {ix : Ix} (hix : ix.ok)
    (h : ExP (plOf ix items.length (nm.getD [])) (fun pl => Q (vP kd (itemsAt kd items pl) (nm.map fun l => namesAt l pl) false)) R) :
    Ct σ (k + 7) 349 [vP kd items nm u, ix.P] Q R := by
  refine W.ct (is_subset_vector W.kk) rfl ?_
  have hk2 : kd ≠ "language" ∧ kd ≠ "environment" := by rcases hk with rfl | rfl | rfl | rfl | rfl <;> simp [str_inj]
  unfold vP
  simp [-getElem?_pos, ir_subset_vector]
  refine ct_names_of W hk2 (fun l e => ?_) ?_
  · cases nm with
    | none => cases e
    | some l' => cases e; simpa using hl l' rfl
  simp [-getElem?_pos]
  refine ⟨by omega, ?_⟩
  rw [show namesP (nm.map (·.map oS)) = nmP nm by cases nm <;> rfl]
  refine ct_positions W hix hn (fun l e => by have := hl l e; omega) ?_
  cases hp : plOf ix items.length (nm.getD []) with
  | error e => rw [hp] at h; exact h
  | ok pl =>
    rw [hp] at h
    have hpl := plOf_len hix hn hp
    simp only [ExP] at h ⊢
    simp [-getElem?_pos]
    refine ct_result_kind W hk ?_
    simp [-getElem?_pos]
    refine ct_items_at W hk hn hpl ?_
    cases nm with
    | none => simp [-getElem?_pos, nmP]; exact h
    | some l =>
      have hl9 := hl l rfl
      simp [-getElem?_pos, nmP]
      refine ct_names_at W (by omega) hpl ?_
      simp [-getElem?_pos]
      refine ⟨by simpa [namesAt] using by omega, ?_⟩
      exact h
end
end Mine

end
section
open PySem PySem.W PySem.Calls PyProof.Rows PySem.Spec
set_option Elab.async false
set_option maxRecDepth 100000
set_option linter.unusedVariables false
set_option linter.unusedSimpArgs false
namespace Mine
section
variable {σ : Sig} {k : Nat} {Q : PV → Prop} {R : PySem.Str → Prop}
theorem ct_is_vector (W : Wd σ) {kd : PySem.Str} {it at' : PV} (h : Q (.bool true)) : Ct σ (k + 1) 300 [.vec kd it at'] Q R := by
  refine W.ct (is_is_vector W.kk) rfl ?_
  simp [-getElem?_pos, ir_is_vector]
  exact h
theorem ct_is_matrix_index (W : Wd σ) {p : PV} (h : Q (.bool false)) : Ct σ (k + 1) 159 [p, .none] Q R := by
  refine W.ct (is_is_matrix_index W.kk) rfl ?_
  simp [-getElem?_pos, ir_is_matrix_index]
  exact h
theorem ct_matrix_index (W : Wd σ) {p : PV} (h : Q .none) : Ct σ (k + 2) 179 [p, .none, .none] Q R := by
  refine W.ct (is_matrix_index W.kk) rfl ?_
  simp [-getElem?_pos, ir_matrix_index]
  refine ct_is_matrix_index W ?_
  simp [-getElem?_pos]
  exact h
theorem kd_not {kd : PySem.Str} (hk : Kd kd) : kd ≠ "NULL" ∧ kd ≠ "language" ∧ kd ≠ "missing" := by
  rcases hk with rfl | rfl | rfl | rfl | rfl <;> simp [str_inj]
theorem ct_any_ix (W : Wd σ) {kd : PySem.Str} (hk : Kd kd) {items : List PV} (hn : items.length ≤ 10) {nm : Option (List (Option PySem.Str))} (hl : ∀ l, nm = some l → l.length ≤ 9) {u : Bool} {ix : Ix} (hix : ix.ok)
    (h1 : ix = .mis → Q (vP kd items nm u)) (h2 : ix ≠ .mis → ExP (plOf ix items.length (nm.getD [])) (fun pl => Q (vP kd (itemsAt kd items pl) (nm.map fun l => namesAt l pl) false)) R) :
    Ct σ (k + 8) 427 [vP kd items nm u, .list [ix.P], .bool true, .bool true] Q R := by
  refine W.ct (is_subset_any W.kk) rfl ?_
  have hs := fun h : ix ≠ .mis => ct_subset_vector (k := k) (u := u) W hk hn hl hix (h2 h)
  unfold vP at h1 h2 hs ⊢
  obtain ⟨n1, n2, n3⟩ := kd_not hk
  cases ix with
  | mis =>
    simp [-getElem?_pos, ir_subset_any, Ix.P, n1, n2, n3]
    refine ct_is_vector W ?_
    simp [-getElem?_pos]
    exact h1 rfl
  | nul =>
    simp [-getElem?_pos, ir_subset_any, Ix.P, n1, n2, n3, str_inj]
    refine ct_is_vector W ?_
    simp [-getElem?_pos]
    refine ct_dim_of W ?_
    simp [-getElem?_pos]
    refine ct_dimnames_of W ?_
    simp [-getElem?_pos]
    refine ct_matrix_index W ?_
    simp [-getElem?_pos]
    exact hs (by simp)
  | _ =>
    simp [-getElem?_pos, ir_subset_any, Ix.P, n1, n2, n3, str_inj]
    refine ct_is_vector W ?_
    simp [-getElem?_pos]
    refine ct_dim_of W ?_
    simp [-getElem?_pos]
    refine ct_dimnames_of W ?_
    simp [-getElem?_pos]
    refine ct_matrix_index W ?_
    simp [-getElem?_pos]
    exact hs (by simp)
theorem ct_any_null (W : Wd σ) {p q r : PV} (h : Q .null) : Ct σ (k + 4) 427 [.null, p, q, r] Q R := by
  refine W.ct (is_subset_any W.kk) rfl ?_
  simp [-getElem?_pos, ir_subset_any]
  exact W.nul h
theorem ct_any_all (W : Wd σ) {kd : PySem.Str} (hk : Kd kd) {items : List PV} {nm : Option (List (Option PySem.Str))} {u : Bool} {q r : PV} (h : Q (vP kd items nm u)) : Ct σ (k + 2) 427 [vP kd items nm u, .list [], q, r] Q R := by
  refine W.ct (is_subset_any W.kk) rfl ?_
  unfold vP at h ⊢
  obtain ⟨n1, n2, n3⟩ := kd_not hk
  simp [-getElem?_pos, ir_subset_any, n1, n2, n3]
  refine ct_is_vector W ?_
  simp [-getElem?_pos]
  exact h
theorem ct_any_two (W : Wd σ) {kd : PySem.Str} (hk : Kd kd) {items : List PV} {nm : Option (List (Option PySem.Str))} {u : Bool} {q r : PV} (h : R "incorrect number of dimensions") : Ct σ (k + 4) 427 [vP kd items nm u, .list [.missing, .missing], q, r] Q R := by
  refine W.ct (is_subset_any W.kk) rfl ?_
  unfold vP
  obtain ⟨n1, n2, n3⟩ := kd_not hk
  simp [-getElem?_pos, ir_subset_any, n1, n2, n3]
  refine ct_is_vector W ?_
  simp [-getElem?_pos]
  refine ct_dim_of W ?_
  simp [-getElem?_pos]
  exact h
/-! the law's view -/
noncomputable def view0 (kd : PySem.Str) (it : PV) : PV := .tup [.str kd, it, .sd [] []]
noncomputable def viewI : PV → PV
  | .vec kd it _ => view0 kd it | _ => .str "NULL"
noncomputable def ItL (p : PV) : Prop := p = .null ∨ ∃ x, p = .vec "integer" (.list [oI x]) .none
noncomputable def viewA : Option (List (Option PySem.Str)) → Bool → PV
  | none, false => .sd [] []
  | some nl, false => .sd ["names"] [view0 "character" (.list (nl.map oS))]
  | none, true => .sd ["unit"] [view0 "character" (.list [.str "m"])]
  | some nl, true => .sd ["names", "unit"] [view0 "character" (.list (nl.map oS)), view0 "character" (.list [.str "m"])]
noncomputable def viewIs (kd : PySem.Str) (items : List PV) : List PV := if kd = "list" then items.map viewI else items
noncomputable def viewP (kd : PySem.Str) (items : List PV) (nm : Option (List (Option PySem.Str))) (u : Bool) : PV := .tup [.str kd, .list (viewIs kd items), viewA nm u]
theorem ct_view_null (W : Wd σ) (h : Q (.str "NULL")) : Ct σ (k + 1) 491 [.null] Q R := by
  refine W.ct (is_law_view W.kk) rfl ?_
  simp [-getElem?_pos, ir_law_view]
  exact h
theorem ct_view0 (W : Wd σ) {kd : PySem.Str} (hk : kd = "integer" ∨ kd = "character") {l : List PV} (hl : l.length ≤ 10) (h : Q (view0 kd (.list l))) : Ct σ (k + 1) 491 [.vec kd (.list l) .none] Q R := by
  refine W.ct (is_law_view W.kk) rfl ?_
  have : l.length ≤ 1048576 := by omega
  rcases hk with rfl | rfl
  · simp [-getElem?_pos, ir_law_view, str_inj, this]
    exact h
  · simp [-getElem?_pos, ir_law_view, str_inj, this]
    exact h
theorem ct_viewI (W : Wd σ) {p : PV} (hp : ItL p) (h : Q (viewI p)) : Ct σ (k + 1) 491 [p] Q R := by
  rcases hp with rfl | ⟨x, rfl⟩
  · exact ct_view_null W h
  · exact ct_view0 W (.inl rfl) (by simp) h
noncomputable def irvT : List IS := [.ite (.cmp .In (.fld .kind (.var 0)) (.tup [(.lit (.str "list")), (.lit (.str "expression")), (.lit (.str "pairlist"))])) [.frz 1, .ret (.tup [(.fld .kind (.var 0)), (.lc 5 (.call 491 [(.var 5)]) (.fld .items (.var 0)) none), (.var 1)])] [],
  .frz 1,
  .ret (.tup [(.fld .kind (.var 0)), (.bi .list (.fld .items (.var 0))), (.var 1)])]
theorem irv_eq : ir_law_view = .ite (.bi .isStr (.var 0)) [.ret (.var 0)] [] :: .ite (.cmp .Eq (.fld .kind (.var 0)) (.lit (.str "NULL"))) [.ret (.lit (.str "NULL"))] [] :: .newD 1 ::
  .ite (.cmp .IsNot (.fld .attrs (.var 0)) (.lit .none)) [.asg 1 (.dc 5 (.var 5) (.call 491 [(.idx (.fld .attrs (.var 0)) (.var 5))]) (.fld .attrs (.var 0)))] [] :: irvT := rfl
theorem view_tail (W : Wd σ) {kd : PySem.Str} (hk : Kd kd) {items : List PV} (hn : items.length ≤ 10) (hi : kd = "list" → ∀ p ∈ items, ItL p) {a V : PV} {b : Bd} (hb : b = .v V ∨ (b = .os [] [] ∧ V = .sd [] [])) (h : Q (.tup [.str kd, .list (viewIs kd items), V])) :
    wpSs (Ct σ) (k + 1) [.v (.vec kd (.list items) a), b, .u, .u, .u] irvT (retQ Q) R := by
  unfold irvT
  have hn' : items.length ≤ 1048576 := by omega
  have key : ∀ (ρ : List Bd) (Q : List PV → Prop), ρ.length = 5 → kd = "list" → Q (items.map viewI) → wpLc (kLcB (Ct σ) (k + 1) ρ (.call 491 [(.var 5)]) none) items [] Q := by
    intro ρ Q hρ e hq
    have e2 : wpLc (kLcB (Ct σ) (k + 1) ρ (.call 491 [(.var 5)]) none) (items.map id) [] Q := by
      refine lc_gen (g := fun p => some (viewI p)) Q items [] (fun p hp K hK => ?_) (by simpa using hq)
      have h5 : (ρ ++ [.v p])[5]? = some (Bd.v p) := by rw [List.getElem?_append_right (by omega)]; simp [hρ]
      simp [-getElem?_pos, h5]
      exact ct_viewI W (hi e p hp) (by simp [-getElem?_pos]; exact hK)
    simpa using e2
  rcases hb with rfl | ⟨rfl, rfl⟩ <;> rcases hk with rfl | rfl | rfl | rfl | rfl
  all_goals simp [-getElem?_pos, str_inj, hn']
  all_goals try simp [viewIs, str_inj] at h
  all_goals try exact h
  all_goals
    refine key _ _ rfl rfl ?_
    simp [-getElem?_pos]
    exact h
theorem ct_view (W : Wd σ) {kd : PySem.Str} (hk : Kd kd) {items : List PV} (hn : items.length ≤ 10) (hi : kd = "list" → ∀ p ∈ items, ItL p) {nm : Option (List (Option PySem.Str))} (hl : ∀ l, nm = some l → l.length ≤ 10) {u : Bool} (h : Q (viewP kd items nm u)) : Ct σ (k + 2) 491 [vP kd items nm u] Q R := by
  refine W.ct (is_law_view W.kk) rfl ?_
  have kn := (kd_not hk).1
  unfold vP
  have T := fun a V b hb h => view_tail (Q := Q) (R := R) (k := k) W hk hn hi (a := a) (V := V) (b := b) hb h
  cases nm with
  | none =>
    cases u
    · simp [-getElem?_pos, irv_eq, attrsP, kn]
      exact T _ _ _ (.inr ⟨rfl, rfl⟩) h
    · simp [-getElem?_pos, irv_eq, attrsP, kn, wd_n, wd_c, lk_0, lk_c, pt_0, pt_c, cv]
      refine ct_view0 W (.inr rfl) (by simp) ?_
      exact T _ _ _ (.inl rfl) h
  | some nl =>
    have hnl := hl nl rfl
    cases u
    · simp [-getElem?_pos, irv_eq, attrsP, kn, wd_n, wd_c, lk_0, lk_c, pt_0, pt_c, cv]
      refine ct_view0 W (.inr rfl) (by simpa using hnl) ?_
      exact T _ _ _ (.inl rfl) h
    · simp [-getElem?_pos, irv_eq, attrsP, kn, wd_n, wd_c, lk_0, lk_c, pt_0, pt_c, cv, str_inj]
      refine ct_view0 W (.inr rfl) (by simpa using hnl) ?_
      refine ct_view0 W (.inr rfl) (by simp) ?_
      exact T _ _ _ (.inl rfl) h
end
end Mine

end
section
open PySem PySem.W PySem.Calls PyProof.Rows PySem.Spec
set_option Elab.async false
set_option maxRecDepth 100000
set_option linter.unusedVariables false
set_option linter.unusedSimpArgs false
namespace Mine
section
variable {σ : Sig} {k : Nat} {Q : PV → Prop} {R : PySem.Str → Prop}
theorem fm (i : Int) {m : Int} (h : 0 < m) : 0 ≤ i.fmod m ∧ i.fmod m < m := ⟨Int.fmod_nonneg_of_pos i h, Int.fmod_lt_of_pos i h⟩
theorem ct_text (W : Wd σ) (h : ∀ x, Q (oS x)) : Ct σ (k + 2) 455 [.row] Q R := by
  refine W.ct (is_law_text W.kk) rfl ?_
  simp [-getElem?_pos, ir_law_text]
  refine W.nxt fun i => ?_
  simp [-getElem?_pos]
  refine W.nxt fun j => ?_
  obtain ⟨a1, a2⟩ := fm i (m := 8) (by omega)
  obtain ⟨b1, b2⟩ := fm j (m := 26) (by omega)
  simp [-getElem?_pos, a1, a2, b1, b2]
  generalize i.fmod 8 = a at *
  generalize j.fmod 26 = b at *
  refine ⟨by omega, by omega, by omega, ?_⟩
  have : a = 0 ∨ a = 1 ∨ a = 2 ∨ a = 3 ∨ a = 4 ∨ a = 5 ∨ a = 6 ∨ a = 7 := by omega
  rcases this with rfl | rfl | rfl | rfl | rfl | rfl | rfl | rfl
  · exact h (some _)
  · exact h (some _)
  · exact h (some _)
  · exact h (some _)
  · exact h (some _)
  · exact h none
  · exact h (some _)
  · exact h (some _)
theorem ct_number (W : Wd σ) (h : ∀ x, okP [x] → Q (oP x)) : Ct σ (k + 2) 462 [.row] Q R := by
  refine W.ct (is_law_number W.kk) rfl ?_
  have h0 : Q .none := h none (by intro a b hm; simp at hm)
  have h1 : ∀ a b, (b = 0 ∨ (0 < b ∧ b ≤ 4)) → Q (.tup [.int a, .int b]) := fun a b hb => h (some (a, b)) (by
    intro a' b' hm; simp at hm; obtain ⟨rfl, rfl⟩ := hm; exact hb)
  simp [-getElem?_pos, ir_law_number]
  refine W.nxt fun i => ?_
  obtain ⟨a1, a2⟩ := fm i (m := 10) (by omega)
  simp [-getElem?_pos]
  generalize i.fmod 10 = a at *
  refine ⟨fun _ => h0, fun e0 => ⟨fun l8 => ⟨fun l5 => ?_, fun l5 => ?_⟩, fun l8 => ⟨fun e8 => ?_, fun e8 => ?_⟩⟩⟩
  · refine W.nxt fun j => ?_
    simp [-getElem?_pos]
    exact h1 _ _ (.inr (by omega))
  · refine W.nxt fun j => ?_
    simp [-getElem?_pos]
    exact h1 _ _ (.inr (by omega))
  · refine W.nxt fun j => ?_
    obtain ⟨b1, b2⟩ := fm j (m := 3) (by omega)
    simp [-getElem?_pos, b1, b2]
    generalize j.fmod 3 = b at *
    refine ⟨by omega, ?_⟩
    have : b = 0 ∨ b = 1 ∨ b = 2 := by omega
    rcases this with rfl | rfl | rfl <;> exact h1 _ _ (.inl rfl)
  · refine W.nxt fun j => ?_
    simp [-getElem?_pos]
    exact ⟨fun _ => h1 _ _ (.inr (by omega)), fun _ => h1 _ _ (.inr (by omega))⟩
noncomputable def ItK (kd : PySem.Str) (p : PV) : Prop := eqIn 5 p = true ∧ (kd = "integer" → ∃ x, p = oI x)
theorem ct_item (W : Wd σ) {kd : PySem.Str} (hk : Kd kd) (h : ∀ p, ItK kd p → Q p) : Ct σ (k + 2) 486 [.row, .str kd] Q R := by
  refine W.ct (is_law_item W.kk) rfl ?_
  have h0 : Q .none := h _ ⟨rfl, fun _ => ⟨none, rfl⟩⟩
  have hI : ∀ i, Q (.int i) := fun i => h _ ⟨rfl, fun _ => ⟨some i, rfl⟩⟩
  simp [-getElem?_pos, ir_law_item]
  refine W.nxt fun i => ?_
  simp [-getElem?_pos]
  refine ⟨fun _ => h0, fun _ => ⟨fun e => ?_, fun n1 => ⟨fun e => ?_, fun n2 => ⟨fun e => ?_, fun n3 => ?_⟩⟩⟩⟩
  · refine W.nxt fun j => ?_
    simp [-getElem?_pos]
    exact hI _
  · refine W.nxt fun j => ?_
    simp [-getElem?_pos]
    exact hI _
  · subst e
    have hS : ∀ x, Q (.str x) := fun x => h _ ⟨rfl, fun e => by simp [str_inj] at e⟩
    refine W.nxt fun j => ?_
    obtain ⟨a1, a2⟩ := fm j (m := 90) (by omega)
    simp [-getElem?_pos]
    refine ⟨by omega, by omega, ?_⟩
    refine W.nxt fun j2 => ?_
    obtain ⟨b1, b2⟩ := fm j2 (m := 7) (by omega)
    simp [-getElem?_pos, b1]
    generalize j.fmod 90 = a at *
    generalize j2.fmod 7 = b at *
    refine ⟨by omega, ?_⟩
    have : b = 0 ∨ b = 1 ∨ b = 2 ∨ b = 3 ∨ b = 4 ∨ b = 5 ∨ b = 6 := by omega
    rcases this with rfl | rfl | rfl | rfl | rfl | rfl | rfl <;> exact hS _
  · have hT : ∀ x y, Q (.tup [.int x, .int y]) := fun x y => h _ ⟨rfl, fun e => absurd e n2⟩
    refine W.nxt fun j => ?_
    obtain ⟨a1, a2⟩ := fm j (m := 10) (by omega)
    simp [-getElem?_pos]
    generalize j.fmod 10 = a at *
    refine ⟨fun _ => ?_, fun _ => ?_⟩
    · refine W.nxt fun j2 => ?_
      obtain ⟨b1, b2⟩ := fm j2 (m := 3) (by omega)
      simp [-getElem?_pos, b1, b2]
      generalize j2.fmod 3 = b at *
      refine ⟨by omega, ?_⟩
      have : b = 0 ∨ b = 1 ∨ b = 2 := by omega
      rcases this with rfl | rfl | rfl <;> exact hT _ _
    · refine W.nxt fun j2 => ?_
      obtain ⟨b1, b2⟩ := fm a (m := 4) (by omega)
      simp [-getElem?_pos, b1, b2]
      generalize a.fmod 4 = b at *
      refine ⟨by omega, ?_⟩
      have : b = 0 ∨ b = 1 ∨ b = 2 ∨ b = 3 := by omega
      rcases this with rfl | rfl | rfl | rfl <;> exact W.red (by omega) (by omega) hT
/-- a comprehension of draws -/
theorem lc_draw {P : PV → Prop} {ρ : List Bd} {elt : IE} (Q : List PV → Prop) : ∀ (vs acc : List PV), (∀ v ∈ vs, ∀ K : Option PV → Prop, (∀ p, P p → K (some p)) → kLcB (Ct σ) k ρ elt none v K) → (∀ l, l.length = vs.length → (∀ p ∈ l, P p) → Q (acc ++ l)) → wpLc (kLcB (Ct σ) k ρ elt none) vs acc Q
  | [], acc, _, h => by
    rw [wl_n]; simpa using h [] rfl (by simp)
  | v :: vs, acc, hg, h => by
    rw [wl_c]
    refine hg v (.head _) _ fun p hp => lc_draw Q vs (acc ++ [p]) (fun v hv => hg v (.tail _ hv)) fun l hl hP => ?_
    have := h (p :: l) (by simp [hl]) (fun q hq => (List.mem_cons.mp hq).elim (fun e => e ▸ hp) (hP q))
    simpa using this
theorem all_map {α : Type} {f : α → PV} {l : List PV} (h : ∀ p ∈ l, ∃ a, p = f a) : ∃ l' : List α, l = l'.map f := by
  induction l with
  | nil => exact ⟨[], rfl⟩
  | cons p l ih =>
    obtain ⟨a, rfl⟩ := h p (.head _)
    obtain ⟨l', rfl⟩ := ih fun q hq => h q (.tail _ hq)
    exact ⟨a :: l', rfl⟩
theorem rngL_len {n : Int} : (rngL n).length = n.toNat := by unfold rngL; simp
noncomputable def numI : Option (Int × Int) → Option Int
  | none => none | some (a, b) => if b = 1 then some a else none
theorem ct_index (W : Wd σ) (h : ∀ ix : Ix, ix.ok → Q ix.P) : Ct σ (k + 4) 467 [.row] Q R := by
  refine W.ct (is_law_index W.kk) rfl ?_
  simp [-getElem?_pos, ir_law_index]
  refine W.nxt fun i => ?_
  simp [-getElem?_pos]
  refine W.nxt fun j => ?_
  obtain ⟨b1, b2⟩ := fm j (m := 10) (by omega)
  simp [-getElem?_pos]
  generalize i.fmod 7 = a at *
  generalize j.fmod 10 = b at *
  have hb : b.toNat ≤ 9 := by omega
  have hlen : (rngL b).length = b.toNat := rngL_len
  refine ⟨fun _ => W.mis (h .mis trivial), fun n0 => ⟨fun _ => W.nul (h .nul trivial), fun n1 => ⟨fun _ => ?_, fun n2 => ⟨fun _ => ?_, fun n3 => ⟨fun _ => ?_, fun n4 => ⟨fun _ => ?_, fun n5 => W.vec (h .lst trivial)⟩⟩⟩⟩⟩⟩
  · refine ⟨⟨b1, by omega⟩, by omega, lc_draw (P := fun p => ∃ x : Option Int, (∀ i, x = some i → i = 0 ∨ i = 1) ∧ p = oI x) _ _ _ (fun v _ K hK => ?_) fun l hl hP => ?_⟩
    · simp [-getElem?_pos]
      refine W.nxt fun m => ?_
      obtain ⟨c1, c2⟩ := fm m (m := 3) (by omega)
      simp [-getElem?_pos, c1]
      generalize m.fmod 3 = c at *
      refine ⟨by omega, ?_⟩
      have : c = 0 ∨ c = 1 ∨ c = 2 := by omega
      rcases this with rfl | rfl | rfl
      · exact hK _ ⟨some 1, by simp, rfl⟩
      · exact hK _ ⟨some 0, by simp, rfl⟩
      · exact hK _ ⟨none, by simp, rfl⟩
    · have hall : ∀ p ∈ l, ∃ x : { x : Option Int // ∀ i, x = some i → i = 0 ∨ i = 1 }, p = oI x.1 := fun p hp => by
        obtain ⟨x, h1, h2⟩ := hP p hp; exact ⟨⟨x, h1⟩, h2⟩
      obtain ⟨l', rfl⟩ := all_map hall
      simp [-getElem?_pos]
      refine W.vec ?_
      simp [-getElem?_pos]
      have := h (.lgl (l'.map (·.1))) ⟨by simp at hl ⊢; omega, fun i hi => by
        obtain ⟨x, _, e⟩ := List.mem_map.mp hi; exact x.2 i e⟩
      simpa [Ix.P] using this
  · refine ⟨⟨b1, by omega⟩, by omega, lc_draw (P := fun p => ∃ x, okP [x] ∧ p = oP x) _ _ _ (fun v _ K hK => ?_) fun l hl hP => ?_⟩
    · simp [-getElem?_pos]
      exact ct_number W fun x hx => hK _ ⟨x, hx, rfl⟩
    · have hall : ∀ p ∈ l, ∃ x : Option (Int × Int), p = oP x := fun p hp => by
        obtain ⟨x, h1, h2⟩ := hP p hp; exact ⟨x, h2⟩
      obtain ⟨l', rfl⟩ := all_map hall
      have hl' : l'.length ≤ 9 := by simp at hl; omega
      have hl'' : l'.length ≤ 1048576 := by omega
      simp [-getElem?_pos, hl'']
      refine lc_gen (g := fun x => some (oI (numI x))) _ l' [] (fun x _ K hK => ?_) ?_
      · match x, hK with
        | none, hK => simp [-getElem?_pos, oP]; exact hK
        | some (a, b), hK =>
          by_cases hb1 : b = 1
          · simp [-getElem?_pos, oP, hb1]; simpa [numI, hb1, oI] using hK
          · simp [-getElem?_pos, oP, hb1]; simpa [numI, hb1, oI] using hK
      · simp [-getElem?_pos]
        refine W.vec ?_
        simp [-getElem?_pos]
        have := h (.int (l'.map numI)) (by show (l'.map numI).length ≤ 10; simp; omega)
        rw [show (fun x => oI (numI x)) = oI ∘ numI from rfl, ← List.map_map]
        exact this
  · refine ⟨⟨b1, by omega⟩, by omega, lc_draw (P := fun p => ∃ x, okP [x] ∧ p = oP x) _ _ _ (fun v _ K hK => ?_) fun l hl hP => ?_⟩
    · simp [-getElem?_pos]
      exact ct_number W fun x hx => hK _ ⟨x, hx, rfl⟩
    · have hall : ∀ p ∈ l, ∃ x : { x // okP [x] }, p = oP x.1 := fun p hp => by
        obtain ⟨x, h1, h2⟩ := hP p hp; exact ⟨⟨x, h1⟩, h2⟩
      obtain ⟨l', rfl⟩ := all_map hall
      simp [-getElem?_pos]
      refine W.vec ?_
      simp [-getElem?_pos]
      have := h (.dbl (l'.map (·.1))) ⟨by simp at hl ⊢; omega, fun a b hm => by
        obtain ⟨x, _, e⟩ := List.mem_map.mp hm; exact x.2 a b (by rw [e]; exact .head _)⟩
      simpa [Ix.P] using this
  · refine ⟨⟨b1, by omega⟩, by omega, lc_draw (P := fun p => ∃ x, p = oS x) _ _ _ (fun v _ K hK => ?_) fun l hl hP => ?_⟩
    · simp [-getElem?_pos]
      exact ct_text W fun x => hK _ ⟨x, rfl⟩
    · obtain ⟨l', rfl⟩ := all_map hP
      simp [-getElem?_pos]
      refine W.vec ?_
      simp [-getElem?_pos]
      exact h (.chr l') (by show l'.length ≤ 10; simp at hl; omega)
noncomputable def irv3 : List IS := [.ite (.cmp .Eq (.bin .Mod (.call 441 [(.var 0)]) (.lit (.int 4))) (.lit (.int 3))) [.ensA 4, .setAI 4 "unit" (.call 246 [(.lit (.str "character")), (.list [(.lit (.str "m"))])])] [],
  .frz 4,
  .ret (.var 4)]
noncomputable def irv2 : List IS := .newV 4 (.var 1) (.var 3) ::
  .ite (.cmp .Eq (.bin .Mod (.call 441 [(.var 0)]) (.lit (.int 2))) (.lit (.int 1))) [.setA 4 "names" (.call 246 [(.lit (.str "character")), (.lc 8 (.call 455 [(.var 0)]) (.bi .range (.var 2)) none)])] [] :: irv3
noncomputable def irv1 : List IS := .asg 2 (.bin .Mod (.call 441 [(.var 0)]) (.lit (.int 10))) ::
  .ite (.cmp .Eq (.var 1) (.lit (.str "list"))) [.asg 3 (.lc 8 (.ite (.cmp .Gt (.bin .Mod (.call 441 [(.var 0)]) (.lit (.int 3))) (.lit (.int 0))) (.call 246 [(.lit (.str "integer")), (.list [(.call 486 [(.var 0), (.lit (.str "integer"))])])]) (.call 196 [])) (.bi .range (.var 2)) none)] [.asg 3 (.lc 8 (.call 486 [(.var 0), (.var 1)]) (.bi .range (.var 2)) none)] :: irv2
theorem irvec_eq : ir_law_vector = .asg 1 (.idx (.list [(.lit (.str "integer")), (.lit (.str "logical")), (.lit (.str "double")), (.lit (.str "character")), (.lit (.str "list"))]) (.bin .Mod (.call 441 [(.var 0)]) (.lit (.int 5)))) :: irv1 := rfl
theorem vec3 (W : Wd σ) {kd : PySem.Str} {items : List PV} {nm : Option (List (Option PySem.Str))} {p : PV} {a t5 t6 t7 : Bd} (h : ∀ u, Q (vP kd items nm u)) :
    wpSs (Ct σ) (k + 5) [.v .row, .v (.str kd), .v p, a, .ov kd (.list items) (nm.map fun l => (["names"], [cv (l.map oS)])), t5, t6, t7] irv3 (retQ Q) R := by
  unfold irv3
  cases nm with
  | none =>
    simp [-getElem?_pos]
    refine W.nxt fun i => ?_
    simp [-getElem?_pos]
    refine ⟨fun _ => W.vec ?_, fun _ => ?_⟩
    · simp [-getElem?_pos, pt_0, pt_c]
      exact h true
    · exact h false
  | some l =>
    simp [-getElem?_pos]
    refine W.nxt fun i => ?_
    simp [-getElem?_pos]
    refine ⟨fun _ => W.vec ?_, fun _ => ?_⟩
    · simp [-getElem?_pos, pt_0, pt_c, str_inj]
      exact h true
    · exact h false
theorem vec2 (W : Wd σ) {kd : PySem.Str} {items : List PV} {b : Int} (hb : 0 ≤ b ∧ b < 10) {t4 t5 t6 t7 : Bd} (h : ∀ nm u, (∀ l, nm = some l → l.length = b.toNat) → Q (vP kd items nm u)) :
    wpSs (Ct σ) (k + 5) [.v .row, .v (.str kd), .v (.int b), .v (.list items), t4, t5, t6, t7] irv2 (retQ Q) R := by
  have hlen : (rngL b).length = b.toNat := rngL_len
  unfold irv2
  simp [-getElem?_pos]
  refine W.nxt fun i => ?_
  simp [-getElem?_pos]
  refine ⟨fun _ => ⟨⟨hb.1, by omega⟩, by omega, lc_draw (P := fun p => ∃ x, p = oS x) _ _ _ (fun v _ K hK => ?_) fun l hl hP => ?_⟩, fun _ => ?_⟩
  · simp [-getElem?_pos]
    exact ct_text W fun x => hK _ ⟨x, rfl⟩
  · obtain ⟨l', rfl⟩ := all_map hP
    simp [-getElem?_pos]
    refine W.vec ?_
    simp [-getElem?_pos]
    exact vec3 (nm := some l') W fun u => h _ _ fun l e => by cases e; simpa [hlen] using hl
  · exact vec3 (nm := none) W fun u => h _ _ fun l e => nomatch e
theorem vec1 (W : Wd σ) {kd : PySem.Str} (hk : Kd kd) {t2 t3 t4 t5 t6 t7 : Bd} (h : ∀ items nm u, items.length ≤ 9 → (∀ l, nm = some l → l.length = items.length) → (kd = "list" → ∀ p ∈ items, ItL p) → (kd ≠ "list" → ∀ p ∈ items, eqIn 5 p = true) → Q (vP kd items nm u)) :
    wpSs (Ct σ) (k + 5) [.v .row, .v (.str kd), t2, t3, t4, t5, t6, t7] irv1 (retQ Q) R := by
  unfold irv1
  simp [-getElem?_pos]
  refine W.nxt fun i => ?_
  obtain ⟨b1, b2⟩ := fm i (m := 10) (by omega)
  simp [-getElem?_pos]
  generalize i.fmod 10 = b at *
  have hlen : (rngL b).length = b.toNat := rngL_len
  refine ⟨fun e => ⟨⟨b1, by omega⟩, by omega, lc_draw (P := ItL) _ _ _ (fun v _ K hK => ?_) fun l hl hP => ?_⟩, fun e => ⟨⟨b1, by omega⟩, by omega, lc_draw (P := fun p => eqIn 5 p = true) _ _ _ (fun v _ K hK => ?_) fun l hl hP => ?_⟩⟩
  · simp [-getElem?_pos]
    refine W.nxt fun j => ?_
    simp [-getElem?_pos]
    refine ⟨fun _ => ?_, fun _ => ?_⟩
    · refine ct_item W (.inl rfl) fun p hp => ?_
      obtain ⟨x, rfl⟩ := hp.2 rfl
      simp [-getElem?_pos]
      exact W.vec (hK _ (.inr ⟨x, rfl⟩))
    · exact W.nul (hK _ (.inl rfl))
  · simp [-getElem?_pos]
    exact vec2 W ⟨b1, b2⟩ fun nm u hn => h l nm u (by omega) (fun l' e => by rw [hn l' e]; omega) (fun _ => hP) fun hne => absurd e hne
  · simp [-getElem?_pos]
    exact ct_item W hk fun p hp => hK _ hp.1
  · simp [-getElem?_pos]
    exact vec2 W ⟨b1, b2⟩ fun nm u hn => h l nm u (by omega) (fun l' e => by rw [hn l' e]; omega) (fun h1 => absurd h1 e) fun _ => hP
theorem ct_vector (W : Wd σ) (h : ∀ kd items nm u, Kd kd → items.length ≤ 9 → (∀ l, nm = some l → l.length = items.length) → (kd = "list" → ∀ p ∈ items, ItL p) → (kd ≠ "list" → ∀ p ∈ items, eqIn 5 p = true) → Q (vP kd items nm u)) : Ct σ (k + 6) 503 [.row] Q R := by
  refine W.ct (is_law_vector W.kk) rfl ?_
  simp [-getElem?_pos, irvec_eq]
  refine W.nxt fun i => ?_
  obtain ⟨a1, a2⟩ := fm i (m := 5) (by omega)
  simp [-getElem?_pos, a1]
  generalize i.fmod 5 = a at *
  refine ⟨by omega, ?_⟩
  have : a = 0 ∨ a = 1 ∨ a = 2 ∨ a = 3 ∨ a = 4 := by omega
  rcases this with rfl | rfl | rfl | rfl | rfl
  · exact vec1 W (.inl rfl) (fun items nm u => h _ items nm u (.inl rfl))
  · exact vec1 W (.inr (.inl rfl)) (fun items nm u => h _ items nm u (.inr (.inl rfl)))
  · exact vec1 W (.inr (.inr (.inl rfl))) (fun items nm u => h _ items nm u (.inr (.inr (.inl rfl))))
  · exact vec1 W (.inr (.inr (.inr (.inl rfl)))) (fun items nm u => h _ items nm u (.inr (.inr (.inr (.inl rfl)))))
  · exact vec1 W (.inr (.inr (.inr (.inr rfl)))) (fun items nm u => h _ items nm u (.inr (.inr (.inr (.inr rfl)))))
end
end Mine

end
section
open PySem PySem.W PySem.Calls PyProof.Rows PySem.Spec
set_option Elab.async false
set_option maxRecDepth 100000
set_option linter.unusedVariables false
set_option linter.unusedSimpArgs false
namespace Mine
noncomputable def irB4 : List IS := [.asg 13 (.tup [(.fld .kind (.var 16)), (.var 10), (.var 11)]),
  .ite (.or (.cmp .NotEq (.call 491 [(.var 7)]) (.var 13)) (.cmp .NotEq (.call 491 [(.var 8)]) (.ite (.cmp .Eq (.fld .kind (.var 15)) (.lit (.str "missing"))) (.var 4) (.var 13)))) [.ret (.lit (.bool false))] []]
noncomputable def irB3t : List IS :=   .asg 10 (.lc 32 (.ite (.and (.cmp .IsNot (.var 32) (.lit .none)) (.cmp .Lt (.var 32) (.var 2))) (.idx (.idx (.var 4) (.lit (.int 1))) (.var 32)) (.var 9)) (.idx (.var 6) (.lit (.int 0))) none) ::
  .newD 11 ::
  .ite (.cmp .IsNot (.var 3) (.lit .none)) [.asg 12 (.lc 32 (.ite (.and (.cmp .IsNot (.var 32) (.lit .none)) (.cmp .Lt (.var 32) (.var 2))) (.idx (.var 3) (.var 32)) (.lit (.str "<NA>"))) (.idx (.var 6) (.lit (.int 0))) none), .seti 11 (.lit (.str "names")) (.tup [(.lit (.str "character")), (.var 12), .dict0])] [] ::
  .frz 11 :: irB4
noncomputable def irB3 : List IS := .asg 9 (.ite (.cmp .Eq (.fld .kind (.var 16)) (.lit (.str "list"))) (.lit (.str "NULL")) (.lit .none)) :: irB3t
noncomputable def irB2 : List IS := .ite (.bi .isStr (.var 6)) [.ite (.or (.cmp .NotEq (.var 7) (.var 6)) (.cmp .NotEq (.var 8) (.var 6))) [.ret (.lit (.bool false))] [], .cont] [] :: irB3
noncomputable def irB : List IS := .asg 15 (.call 467 [(.var 1)]) ::
  .asg 6 (.call 479 [(.var 15), (.var 2), (.var 3), (.lit (.bool false))]) ::
  .keep 7 (.call 349 [(.var 16), (.var 15)]) ::
  .keep 8 (.call 427 [(.var 16), (.list [(.var 15)]), (.lit (.bool true)), (.lit (.bool true))]) :: irB2
noncomputable def irE : List IS := [.ite (.or (.cmp .NotEq (.fld .kind (.call 427 [(.call 196 []), (.list [(.call 246 [(.lit (.str "integer")), (.list [(.lit (.int 1))])])]), (.lit (.bool true)), (.lit (.bool true))])) (.lit (.str "NULL"))) (.cmp .NotEq (.call 491 [(.call 427 [(.var 16), (.list []), (.lit (.bool true)), (.lit (.bool true))])]) (.var 4))) [.ret (.lit (.bool false))] [],
  .keep 14 (.call 427 [(.var 16), (.list [(.call 217 []), (.call 217 [])]), (.lit (.bool true)), (.lit (.bool true))]),
  .ret (.and (.cmp .Eq (.var 14) (.lit (.str "incorrect number of dimensions"))) (.cmp .Eq (.call 491 [(.var 16)]) (.var 4)))]
noncomputable def irM : List IS := .asg 4 (.call 491 [(.var 16)]) :: .for 5 (.bi .range (.bin .Add (.lit (.int 1)) (.bin .Mod (.call 441 [(.var 1)]) (.lit (.int 3))))) irB :: irE
noncomputable def irL : List IS := .asg 16 (.call 503 [(.var 1)]) ::
  .asg 2 (.bi .len (.fld .items (.var 16))) ::
  .asg 3 (.lit .none) ::
  .ite (.and (.cmp .IsNot (.fld .attrs (.var 16)) (.lit .none)) (.cmp .In (.lit (.str "names")) (.fld .attrs (.var 16)))) [.asg 3 (.bi .list (.fld .items (.idx (.fld .attrs (.var 16)) (.lit (.str "names")))))] [] ::
  irM

structure VOK (kd : PySem.Str) (items : List PV) (nm : Option (List (Option PySem.Str))) : Prop where
  hk : Kd kd
  len : items.length ≤ 9
  nl : ∀ l, nm = some l → l.length = items.length
  il : kd = "list" → ∀ p ∈ items, ItL p
  io : kd ≠ "list" → ∀ p ∈ items, eqIn 5 p = true
noncomputable def lackV (kd : PySem.Str) : PV := if kd = "list" then .str "NULL" else .none
noncomputable def dueItems (kd : PySem.Str) (vi : List PV) (pl : List (Option Nat)) : List PV := pl.map fun x => match x with | none => lackV kd | some j => vi[j]?.getD (lackV kd)
theorem viewIs_at {kd : PySem.Str} {items : List PV} {pl : List (Option Nat)} : viewIs kd (itemsAt kd items pl) = dueItems kd (viewIs kd items) pl := by
  by_cases h : kd = "list"
  · simp only [viewIs, itemsAt, dueItems, lack, lackV, h, if_true, List.map_map]
    refine List.map_congr_left fun x _ => ?_
    cases x with
    | none => rfl
    | some j => simp only [Function.comp, List.getElem?_map]; cases items[j]? <;> rfl
  · simp only [viewIs, itemsAt, dueItems, lack, lackV, h, if_false]
    all_goals exact List.map_congr_left fun x _ => by cases x <;> rfl
theorem eqIn_oS {n : Nat} {x : Option PySem.Str} : eqIn n (oS x) = true := by cases x <;> cases n <;> rfl
theorem eqIn_mono5 {p : PV} (h : eqIn 5 p = true) : eqIn 5 p = true := h
theorem eqTop_view {kd : PySem.Str} {items : List PV} {nm : Option (List (Option PySem.Str))} {u : Bool} (h1 : kd = "list" → ∀ p ∈ items, ItL p) (h2 : kd ≠ "list" → ∀ p ∈ items, eqIn 5 p = true) : eqTop (viewP kd items nm u) = true := by
  have hv : ∀ l : List PV, (∀ p ∈ l, eqIn 4 p = true) → eqIn 6 (view0 "character" (.list l)) = true := by
    intro l hl
    exact (Bool.and_eq_true _ _).mpr ⟨List.all_eq_true.mpr hl, rfl⟩
  have hs : ∀ l : List (Option PySem.Str), ∀ p ∈ l.map oS, eqIn 4 p = true := by
    intro l p hp
    obtain ⟨x, _, rfl⟩ := List.mem_map.mp hp
    exact eqIn_oS
  have hi : eqIn 6 (.list (viewIs kd items)) = true := by
    refine List.all_eq_true.mpr fun p hp => ?_
    unfold viewIs at hp
    split at hp
    · next e =>
      obtain ⟨q, hq, rfl⟩ := List.mem_map.mp hp
      rcases h1 e q hq with rfl | ⟨x, rfl⟩
      · rfl
      · cases x <;> rfl
    · next e => exact h2 e p hp
  have hm : ∀ p ∈ ([.str "m"] : List PV), eqIn 4 p = true := by
    intro p hp; rw [List.mem_singleton.mp hp]; rfl
  have all2 : ∀ a b : PV, eqIn 6 a = true → eqIn 6 b = true → [a, b].all (eqIn 6) = true := fun a b h1 h2 => by rw [List.all_cons, List.all_cons, h1, h2]; rfl
  have all1 : ∀ a : PV, eqIn 6 a = true → [a].all (eqIn 6) = true := fun a h1 => by rw [List.all_cons, h1]; rfl
  cases nm <;> cases u
  · exact eqTop3 hi rfl
  · exact eqTop3 hi (all1 _ (hv _ hm))
  · exact eqTop3 hi (all1 _ (hv _ (hs _)))
  · exact eqTop3 hi (all2 _ _ (hv _ (hs _)) (hv _ hm))
theorem VOK.view {kd items nm} (V : VOK kd items nm) {u : Bool} : eqTop (viewP kd items nm u) = true := eqTop_view V.il V.io
theorem VOK.sub {kd items nm} (V : VOK kd items nm) {pl : List (Option Nat)} : (kd = "list" → ∀ p ∈ itemsAt kd items pl, ItL p) ∧ (kd ≠ "list" → ∀ p ∈ itemsAt kd items pl, eqIn 5 p = true) := by
  refine ⟨fun e p hp => ?_, fun e p hp => ?_⟩
  all_goals
    obtain ⟨x, _, rfl⟩ := List.mem_map.mp hp
  · cases x with
    | none => exact .inl (by simp [lack, e])
    | some j =>
      simp only
      cases hj : items[j]? with
      | none => exact .inl (by simp [lack, e])
      | some q => exact V.il e q (List.mem_of_getElem? hj)
  · cases x with
    | none => show eqIn 5 (lack kd) = true; rw [show lack kd = PV.none from if_neg e]; rfl
    | some j =>
      simp only
      cases hj : items[j]? with
      | none => show eqIn 5 (lack kd) = true; rw [show lack kd = PV.none from if_neg e]; rfl
      | some q => exact V.io e q (List.mem_of_getElem? hj)
section
variable {σ : Sig} {k : Nat} {Q : PV → Prop} {R : PySem.Str → Prop} {kd : PySem.Str} {items : List PV} {nm : Option (List (Option PySem.Str))} {u : Bool}
theorem vp_k {Q : PV → Prop} : fldP .kind (vP kd items nm u) Q = Q (.str kd) := rfl
theorem vp_i {Q : PV → Prop} : fldP .items (vP kd items nm u) Q = Q (.list items) := rfl
theorem vp_a {Q : PV → Prop} : fldP .attrs (vP kd items nm u) Q = Q (attrsP (nm.map (·.map oS)) u) := rfl
noncomputable def kdI : Ix → PySem.Str
  | .mis => "missing" | .nul => "NULL" | .lgl _ => "logical" | .int _ => "integer" | .dbl _ => "double" | .chr _ => "character" | .lst => "list"
theorem ix_k {ix : Ix} {Q : PV → Prop} : fldP .kind ix.P Q = Q (.str (kdI ix)) := by cases ix <;> rfl
theorem ix_mis {ix : Ix} : kdI ix = "missing" ↔ ix = .mis := by cases ix <;> simp [kdI, str_inj]
theorem lap4 (W : Wd σ) (V : VOK kd items nm) {ix : Ix} {pl : List (Option Nat)} (hpl : pl.length ≤ 10) {more p2 p3 p6 : PV} {t5 t9 t10 t11 t12 t13 : Bd} {us : List Bd} {Qf : Fl → List Bd → Prop}
    (hm : (ix = .mis ∧ more = vP kd items nm u) ∨ (ix ≠ .mis ∧ more = vP kd (itemsAt kd items pl) (nm.map fun l => namesAt l pl) false))
    (h : ∀ t13, Qf .next (.tab :: .v .row :: .v p2 :: .v p3 :: .v (viewP kd items nm u) :: t5 :: .v p6 :: .v (vP kd (itemsAt kd items pl) (nm.map fun l => namesAt l pl) false) :: .v more :: t9 :: .v (.list (dueItems kd (viewIs kd items) pl)) :: .v (viewA (nm.map fun l => namesAt l pl) false) :: t12 :: t13 :: .u :: .v ix.P :: .v (vP kd items nm u) :: us)) :
    wpSs (Ct σ) (k + 10) (.tab :: .v .row :: .v p2 :: .v p3 :: .v (viewP kd items nm u) :: t5 :: .v p6 :: .v (vP kd (itemsAt kd items pl) (nm.map fun l => namesAt l pl) false) :: .v more :: t9 :: .v (.list (dueItems kd (viewIs kd items) pl)) :: .v (viewA (nm.map fun l => namesAt l pl) false) :: t12 :: t13 :: .u :: .v ix.P :: .v (vP kd items nm u) :: us) irB4 Qf R := by
  have hS := V.sub (pl := pl)
  have hil : (itemsAt kd items pl).length ≤ 10 := by simpa [itemsAt] using hpl
  have hnl : ∀ l, (nm.map fun l => namesAt l pl) = some l → l.length ≤ 10 := by
    intro l e; cases nm with
    | none => cases e
    | some l' => cases e; simpa [namesAt] using hpl
  have hnl0 : ∀ l, nm = some l → l.length ≤ 10 := fun l e => by rw [V.nl l e]; have := V.len; omega
  have hT : eqTop (viewP kd (itemsAt kd items pl) (nm.map fun l => namesAt l pl) false) = true := eqTop_view hS.1 hS.2
  have hdue : (PV.tup [.str kd, .list (dueItems kd (viewIs kd items) pl), viewA (nm.map fun l => namesAt l pl) false]) = viewP kd (itemsAt kd items pl) (nm.map fun l => namesAt l pl) false := by
    rw [viewP, viewIs_at]
  unfold irB4
  simp [-getElem?_pos, vp_k, vp_i, vp_a, hdue]
  refine ct_view (k := k + 8) W V.hk hil hS.1 hnl ?_
  simp [-getElem?_pos, hdue]
  refine eqP_self hT ?_
  rcases hm with ⟨rfl, rfl⟩ | ⟨hne, rfl⟩
  · simp [-getElem?_pos, hdue]
    refine ct_view (k := k + 8) W V.hk (by have := V.len; omega) V.il hnl0 ?_
    simp [-getElem?_pos, vp_k, ix_k, ix_mis]
    refine eqP_self V.view ?_
    simp [-getElem?_pos]
    exact h _
  · simp [-getElem?_pos, hdue]
    refine ct_view (k := k + 8) W V.hk hil hS.1 hnl ?_
    simp [-getElem?_pos, vp_k, ix_k, ix_mis, hne]
    refine eqP_self hT ?_
    simp [-getElem?_pos]
    exact h _
theorem lc_gen1 {α : Type} {f : α → PV} {g : α → PV} {ρ : List Bd} {elt : IE} {cond : Option IE} (Q : List PV → Prop) (l : List α) (h1 : ∀ a ∈ l, ∀ K, K (some (g a)) → kLcB (Ct σ) k ρ elt cond (f a) K) (h2 : Q (l.map g)) : wpLc (kLcB (Ct σ) k ρ elt cond) (l.map f) [] Q :=
  lc_gen (g := fun a => some (g a)) Q l [] h1 (by simpa using h2)
theorem shown_eq {l : List (Option PySem.Str)} {pl : List (Option Nat)} : (namesAt l pl).map oS = pl.map fun x => match x with | none => PV.str "<NA>" | some j => (l[j]?.map oS).getD (.str "<NA>") := by
  unfold namesAt
  rw [List.map_map]
  refine List.map_congr_left fun x _ => ?_
  cases x with
  | none => rfl
  | some j => simp only [Function.comp]; cases l[j]? <;> rfl
theorem lap3 (W : Wd σ) (V : VOK kd items nm) {ix : Ix} {pl : List (Option Nat)} (hpl : pl.length ≤ 10) {more : PV} {t5 t9 t10 t11 t12 t13 : Bd} {us : List Bd} (hus : us.length = 15) {Qf : Fl → List Bd → Prop}
    (hm : (ix = .mis ∧ more = vP kd items nm u) ∨ (ix ≠ .mis ∧ more = vP kd (itemsAt kd items pl) (nm.map fun l => namesAt l pl) false))
    (h : ∀ t5 t6 t7 t8 t9 t10 t11 t12 t13 t15, Qf .next (.tab :: .v .row :: .v (.int items.length) :: .v (nmP nm) :: .v (viewP kd items nm u) :: t5 :: t6 :: t7 :: t8 :: t9 :: t10 :: t11 :: t12 :: t13 :: .u :: t15 :: .v (vP kd items nm u) :: us)) :
    wpSs (Ct σ) (k + 10) (.tab :: .v .row :: .v (.int items.length) :: .v (nmP nm) :: .v (viewP kd items nm u) :: t5 :: .v (.tup [.list (pl.map oN), .none]) :: .v (vP kd (itemsAt kd items pl) (nm.map fun l => namesAt l pl) false) :: .v more :: t9 :: t10 :: t11 :: t12 :: t13 :: .u :: .v ix.P :: .v (vP kd items nm u) :: us) irB3 Qf R := by
  have L4 := fun t12 => lap4 (R := R) (k := k) (us := us) (u := u) (Qf := Qf) (t5 := t5) (t9 := .v (lackV kd)) (t10 := t10) (t11 := t11) (t12 := t12) (t13 := t13) (p2 := .int items.length) (p3 := nmP nm) (p6 := .tup [.list (pl.map oN), .none]) W V hpl hm fun t13 => h _ _ _ _ _ _ _ _ _ _
  have hi : (viewIs kd items).length = items.length := by unfold viewIs; split <;> simp
  have hV := V.len
  have hplz : pl.length ≤ 1048576 := by omega
  have hap : ∀ p : Bd, (us ++ [p])[15]? = some p := fun p => by rw [List.getElem?_append_right (by omega)]; simp [hus]
  unfold irB3
  have key : ∀ t9 t10, t9 = Bd.v (lackV kd) → wpSs (Ct σ) (k + 10) (.tab :: .v .row :: .v (.int items.length) :: .v (nmP nm) :: .v (viewP kd items nm u) :: t5 :: .v (.tup [.list (pl.map oN), .none]) :: .v (vP kd (itemsAt kd items pl) (nm.map fun l => namesAt l pl) false) :: .v more :: t9 :: t10 :: t11 :: t12 :: t13 :: .u :: .v ix.P :: .v (vP kd items nm u) :: us) irB3t Qf R := by
    rintro _ t10 rfl
    unfold irB3t
    simp [-getElem?_pos, hus, hplz, viewP]
    refine lc_gen1 (g := fun x => match x with | none => lackV kd | some j => (viewIs kd items)[j]?.getD (lackV kd)) _ pl (fun x _ K hK => ?_) ?_
    · cases x with
      | none => simp [-getElem?_pos, oN, hap]; exact hK
      | some j =>
        by_cases hj : j < items.length
        · have hj' : j < (viewIs kd items).length := by omega
          have e : (viewIs kd items)[j]? = some (viewIs kd items)[j] := List.getElem?_eq_getElem hj'
          have hj2 : (j : Int) < 1099511627776 := by omega
          simp [-getElem?_pos, oN, hj, e, hj2, hap]
          simpa [e] using hK
        · have e : (viewIs kd items)[j]? = none := List.getElem?_eq_none (by omega)
          simp [-getElem?_pos, oN, hj, hap]
          simpa [e] using hK
    · cases nm with
      | none =>
        simp [-getElem?_pos, nmP]
        exact L4 _
      | some l =>
        have hl := V.nl l rfl
        simp [-getElem?_pos, nmP, hus, hplz]
        refine lc_gen1 (g := fun x => match x with | none => PV.str "<NA>" | some j => (l[j]?.map oS).getD (.str "<NA>")) _ pl (fun x _ K hK => ?_) ?_
        · cases x with
          | none => simp [-getElem?_pos, oN, hap]; exact hK
          | some j =>
            by_cases hj : j < items.length
            · have e : l[j]? = some l[j] := List.getElem?_eq_getElem (by omega)
              have hj2 : (j : Int) < 1099511627776 := by omega
              simp [-getElem?_pos, oN, hj, e, hj2, hap]
              simpa [e] using hK
            · have e : l[j]? = none := List.getElem?_eq_none (by omega)
              simp [-getElem?_pos, oN, hj, hap]
              simpa [e] using hK
        · rw [← shown_eq]
          simp [-getElem?_pos, pt_0, pt_c]
          exact L4 _
  simp [-getElem?_pos, vp_k]
  refine ⟨fun e => key _ _ (by simp [lackV, e]), fun e => key _ _ (by simp [lackV, e])⟩
theorem nl10 (V : VOK kd items nm) : ∀ l, nm = some l → l.length ≤ 10 := fun l e => by rw [V.nl l e]; have := V.len; omega
theorem nl9 (V : VOK kd items nm) : ∀ l, nm = some l → l.length ≤ 9 := fun l e => by rw [V.nl l e]; have := V.len; omega
theorem lap (W : Wd σ) (V : VOK kd items nm) {t5 t6 t7 t8 t9 t10 t11 t12 t13 t15 : Bd} {us : List Bd} (hus : us.length = 15) {Qf : Fl → List Bd → Prop}
    (h : ∀ fl t5 t6 t7 t8 t9 t10 t11 t12 t13 t15, fl = .next ∨ fl = .cont → Qf fl (.tab :: .v .row :: .v (.int items.length) :: .v (nmP nm) :: .v (viewP kd items nm u) :: t5 :: t6 :: t7 :: t8 :: t9 :: t10 :: t11 :: t12 :: t13 :: .u :: t15 :: .v (vP kd items nm u) :: us)) :
    wpSs (Ct σ) (k + 10) (.tab :: .v .row :: .v (.int items.length) :: .v (nmP nm) :: .v (viewP kd items nm u) :: t5 :: t6 :: t7 :: t8 :: t9 :: t10 :: t11 :: t12 :: t13 :: .u :: t15 :: .v (vP kd items nm u) :: us) irB Qf R := by
  have hV := V.len
  unfold irB
  simp [-getElem?_pos]
  refine ct_index (k := k + 6) W fun ix hix => ?_
  simp [-getElem?_pos]
  refine ct_law_due (k := k + 8) W hix (by omega) (nl10 V) ?_
  cases hp : plOf ix items.length (nm.getD []) with
  | error e =>
    have hne : ix ≠ .mis := fun e => by subst e; cases hp
    simp [-getElem?_pos, duP]
    refine ct_subset_vector (k := k + 1) W V.hk (by omega) (nl9 V) hix ?_
    rw [hp]; simp only [ExP]
    simp [-getElem?_pos]
    refine ct_any_ix (k := k) W V.hk (by omega) (nl9 V) hix (fun e => absurd e hne) fun _ => ?_
    rw [hp]; simp only [ExP]
    simp [-getElem?_pos, irB2]
    exact h _ _ _ _ _ _ _ _ _ _ _ (.inr rfl)
  | ok pl =>
    have hpl := plOf_len hix (by omega) hp
    simp [-getElem?_pos, duP]
    refine ct_subset_vector (k := k + 1) W V.hk (by omega) (nl9 V) hix ?_
    rw [hp]; simp only [ExP]
    simp [-getElem?_pos]
    refine ct_any_ix (k := k) W V.hk (by omega) (nl9 V) hix (fun e => ?_) fun hne => ?_
    · simp [-getElem?_pos, irB2]
      exact lap3 W V hpl hus (.inl ⟨e, rfl⟩) fun _ _ _ _ _ _ _ _ _ _ => h _ _ _ _ _ _ _ _ _ _ _ (.inl rfl)
    · rw [hp]; simp only [ExP]
      simp [-getElem?_pos, irB2]
      exact lap3 W V hpl hus (.inr ⟨hne, rfl⟩) fun _ _ _ _ _ _ _ _ _ _ => h _ _ _ _ _ _ _ _ _ _ _ (.inl rfl)
theorem laps (W : Wd σ) (V : VOK kd items nm) {us : List Bd} (hus : us.length = 15) {Qf : Fl → List Bd → Prop}
    (h : ∀ t5 t6 t7 t8 t9 t10 t11 t12 t13 t15, Qf .next (.tab :: .v .row :: .v (.int items.length) :: .v (nmP nm) :: .v (viewP kd items nm u) :: t5 :: t6 :: t7 :: t8 :: t9 :: t10 :: t11 :: t12 :: t13 :: .u :: t15 :: .v (vP kd items nm u) :: us)) :
    ∀ (is : List PV) (t5 t6 t7 t8 t9 t10 t11 t12 t13 t15 : Bd), wpFor (kBody (Ct σ) (k + 10) irB) 5 is (.tab :: .v .row :: .v (.int items.length) :: .v (nmP nm) :: .v (viewP kd items nm u) :: t5 :: t6 :: t7 :: t8 :: t9 :: t10 :: t11 :: t12 :: t13 :: .u :: t15 :: .v (vP kd items nm u) :: us) Qf
  | [], _, _, _, _, _, _, _, _, _, _ => h _ _ _ _ _ _ _ _ _ _
  | i :: is, t5, t6, t7, t8, t9, t10, t11, t12, t13, t15 => by
    rw [wf_c]
    refine lap W V hus fun fl _ _ _ _ _ _ _ _ _ _ hfl => ?_
    rcases hfl with rfl | rfl <;> exact laps W V hus h is _ _ _ _ _ _ _ _ _ _
theorem law_end (W : Wd σ) (V : VOK kd items nm) {p2 p3 : PV} {t5 t6 t7 t8 t9 t10 t11 t12 t13 t15 : Bd} {us : List Bd} {P : Fl → List Bd → Prop} (h : ∀ ρ', ρ'[0]? = some .tab → P (.ret (.bool true)) ρ') :
    wpSs (Ct σ) (k + 10) (.tab :: .v .row :: .v p2 :: .v p3 :: .v (viewP kd items nm u) :: t5 :: t6 :: t7 :: t8 :: t9 :: t10 :: t11 :: t12 :: t13 :: .u :: t15 :: .v (vP kd items nm u) :: us) irE P R := by
  have hV := V.len
  unfold irE
  simp [-getElem?_pos]
  refine W.nul ?_
  simp [-getElem?_pos]
  refine W.vec ?_
  simp [-getElem?_pos]
  refine ct_any_null (k := k + 6) W ?_
  simp [-getElem?_pos]
  refine ct_any_all (k := k + 8) W V.hk ?_
  simp [-getElem?_pos]
  refine ct_view (k := k + 8) W V.hk (by omega) V.il (nl10 V) ?_
  simp [-getElem?_pos]
  refine eqP_self V.view ?_
  simp [-getElem?_pos]
  refine W.mis ?_
  simp [-getElem?_pos]
  refine W.mis ?_
  simp [-getElem?_pos]
  refine ct_any_two (k := k + 4) W V.hk ?_
  simp [-getElem?_pos]
  refine ct_view (k := k + 8) W V.hk (by omega) V.il (nl10 V) ?_
  simp [-getElem?_pos]
  refine eqP_self V.view ?_
  simp [-getElem?_pos]
  exact h _ rfl
theorem law_main (W : Wd σ) {P : Fl → List Bd → Prop} (h : ∀ ρ', ρ'[0]? = some .tab → P (.ret (.bool true)) ρ') : wpSs (Ct σ) (k + 10) (.tab :: .v .row :: List.replicate 30 .u) irL P R := by
  unfold irL
  simp [-getElem?_pos]
  refine ct_vector (k := k + 4) W fun kd items nm u hk hl hnl hil hio => ?_
  have V : VOK kd items nm := ⟨hk, hl, hnl, hil, hio⟩
  have hl' : items.length < 1099511627776 := by omega
  have hl2 : items.length ≤ 1048576 := by omega
  have key : ∀ t3, t3 = nmP nm → wpSs (Ct σ) (k + 10) (.tab :: .v .row :: .v (.int items.length) :: .v t3 :: .u :: .u :: .u :: .u :: .u :: .u :: .u :: .u :: .u :: .u :: .u :: .u :: .v (vP kd items nm u) :: List.replicate 15 .u) irM P R := by
    rintro _ rfl
    unfold irM
    simp [-getElem?_pos]
    refine ct_view (k := k + 8) W V.hk (by omega) V.il (nl10 V) ?_
    simp [-getElem?_pos]
    refine W.nxt fun i => ?_
    obtain ⟨a1, a2⟩ := fm i (m := 3) (by omega)
    simp [-getElem?_pos]
    generalize i.fmod 3 = a at *
    refine ⟨⟨by omega, by omega⟩, laps W V rfl (fun _ _ _ _ _ _ _ _ _ _ => ?_) _ _ _ _ _ _ _ _ _ _ _⟩
    exact law_end W V h
  simp [-getElem?_pos, vp_i, vp_a, hl']
  cases nm with
  | none =>
    cases u
    · simp [-getElem?_pos, attrsP]
      exact key _ rfl
    · simp [-getElem?_pos, attrsP, str_inj]
      exact key _ rfl
  | some l =>
    have hll : l.length ≤ 1048576 := by rw [hnl l rfl]; exact hl2
    cases u
    · simp [-getElem?_pos, attrsP, str_inj, lk_0, lk_c, cv, vp_a, hll]
      exact key _ rfl
    · simp [-getElem?_pos, attrsP, str_inj, lk_0, lk_c, cv, vp_a, hll]
      exact key _ rfl
end
end Mine

end
section
open PySem PySem.W PySem.Calls PyProof.Rows PySem.Spec
set_option Elab.async false
set_option maxRecDepth 100000
set_option maxHeartbeats 8000000
set_option linter.unusedVariables false
namespace Mine
section
theorem slice_upto {vs : List Value} (y : Nat) : slicePick vs.toArray none (some (y : Int)) none = (vs.take y).toArray := by
  have e : sliceBounds none (some (y : Int)) none vs.toArray.size = (((0 : Nat) : Int), ((min y vs.toArray.size : Nat) : Int), 1) := by
    simp only [sliceBounds, Option.getD_none, show (1 : Int) > 0 by decide, if_true, if_neg (show ¬ ((y : Int) < 0) by omega)]
    congr 1
    congr 1
    omega
  rw [kmk_pick_nat _ e]
  show ((vs.drop 0).take (min y vs.toArray.size - 0)).toArray = _
  rw [List.drop_zero, Nat.sub_zero, List.size_toArray, kmk_take_min]
end
end Mine

end
section
open PySem PySem.W PySem.Calls PyProof.Rows PySem.Spec
set_option Elab.async false
set_option maxRecDepth 100000
set_option linter.unusedVariables false
set_option linter.unusedSimpArgs false
namespace Mine
section
variable {σ : Sig} {k : Nat}
noncomputable def IntPs (l : List PV) : Prop := ∀ p ∈ l, ∃ i : Int, p = .int i
theorem IntPs.snoc {l : List PV} {i : Int} (h : IntPs l) : IntPs (l ++ [.int i]) := fun p hp => by
  rcases List.mem_append.mp hp with hp | hp
  · exact h p hp
  · exact ⟨i, by simpa using hp⟩
noncomputable def rowIn : List IS := [.ite (.cmp .Gt (.var 3) (.lit (.int 0))) [.app 1 (.bin .Mod (.var 3) (.lit (.int 1024))), .asg 3 (.bin .FloorDiv (.var 3) (.lit (.int 1024)))] []]
theorem loop_in {b0 b2 b5 : Bd} (Qf : Fl → List Bd → Prop) : ∀ (l acc : List PV) (f : Int) (b4 : Bd), IntPs acc → acc.length + l.length ≤ 2 ^ 20 →
    (∀ acc' f b4, IntPs acc' → acc'.length ≤ acc.length + l.length → Qf .next [b0, .ol acc', b2, .v (.int f), b4, b5]) →
    wpFor (kBody (Ct σ) k rowIn) 4 l [b0, .ol acc, b2, .v (.int f), b4, b5] Qf
  | [], acc, f, b4, hi, hl, h => by simpa [wf_n, wf_c, wf_1, wf_2, wf_3] using h acc f b4 hi (by simp)
  | p :: l, acc, f, b4, hi, hl, h => by
    simp only [List.length_cons] at hl h
    have h1 : acc.length ≤ 1048576 := by omega
    by_cases hf : 0 < f
    · have ih := loop_in (b0 := b0) (b2 := b2) (b5 := b5) Qf l (acc ++ [.int (f.fmod 1024)]) (f.fdiv 1024) (.v p) hi.snoc (by simp; omega) (fun a f b4 h1 h2 => h a f b4 h1 (by simp at h2; omega))
      simp [-getElem?_pos, wf_c, wf_1, wf_2, wf_3, rowIn, hf, h1]
      exact ih
    · have ih := loop_in (b0 := b0) (b2 := b2) (b5 := b5) Qf l acc f (.v p) hi (by omega) (fun a f b4 h1 h2 => h a f b4 h1 (by omega))
      simp [-getElem?_pos, wf_c, wf_1, wf_2, wf_3, rowIn, hf, h1]
      exact ih
noncomputable def rowBody : List IS := [.asg 3 (.ite (.cmp .GtE (.var 2) (.lit (.int 0))) (.var 2) (.bin .Sub (.lit (.int 7)) (.var 2))), .app 1 (.bin .Mod (.var 3) (.lit (.int 1024))), .asg 3 (.bin .FloorDiv (.var 3) (.lit (.int 1024))), .for 4 (.bi .range (.lit (.int 30))) rowIn]
theorem loop_row {b0 b5 : Bd} (Qf : Fl → List Bd → Prop) : ∀ (l acc : List PV) (b2 b3 b4 : Bd), IntPs l → IntPs acc → acc.length + 31 * l.length ≤ 2 ^ 20 →
    (∀ acc' b2 b3 b4, IntPs acc' → acc'.length ≤ acc.length + 31 * l.length → Qf .next [b0, .ol acc', b2, b3, b4, b5]) →
    wpFor (kBody (Ct σ) k rowBody) 2 l [b0, .ol acc, b2, b3, b4, b5] Qf
  | [], acc, b2, b3, b4, hl, hi, hz, h => by simpa [wf_n, wf_c, wf_1, wf_2, wf_3] using h acc b2 b3 b4 hi (by simp)
  | p :: l, acc, b2, b3, b4, hl, hi, hz, h => by
    obtain ⟨c, rfl⟩ := hl p (.head _)
    simp only [List.length_cons] at hz h
    have h1 : acc.length ≤ 1048576 := by omega
    have ih := fun acc' b2 b3 b4 hi' hz' h' => loop_row (b0 := b0) (b5 := b5) Qf l acc' b2 b3 b4 (fun p hp => hl p (.tail _ hp)) hi' hz' h'
    have inner : ∀ f : Int, wpFor (kBody (Ct σ) k rowIn) 4 (rngL 30) [b0, .ol (acc ++ [.int (f.fmod 1024)]), .v (.int c), .v (.int (f.fdiv 1024)), b4, b5] (fun fl ρ' => match fl with | .ret p => Qf (.ret p) ρ' | _ => wpFor (kBody (Ct σ) k rowBody) 2 l ρ' Qf) := fun f => by
      refine loop_in _ _ _ _ _ hi.snoc (by simp [rngL]; omega) fun acc' f' b4' h2 h3 => ?_
      have h3 : acc'.length ≤ acc.length + 31 := by simp [rngL] at h3; omega
      exact ih acc' _ _ _ h2 (by omega) fun a b2 b3 b4 h4 h5 => h a b2 b3 b4 h4 (by omega)
    by_cases hc : 0 ≤ c
    · have := inner c
      simp [-getElem?_pos, wf_c, wf_1, wf_2, wf_3, rowBody, hc, h1]
      exact this
    · have := inner (7 - c)
      simp [-getElem?_pos, wf_c, wf_1, wf_2, wf_3, rowBody, hc, h1]
      exact this
end
end Mine

end
section
open PySem PySem.W PySem.Calls PyProof.Rows PySem.Spec
set_option Elab.async false
set_option maxRecDepth 100000
set_option maxHeartbeats 8000000
set_option linter.unusedVariables false
namespace Mine
theorem reps_ints {σ : Sig} {r : Option Addr} {X : Led} : ∀ {vs : List Value} {ns : List Int}, IntsAre vs ns → Reps σ r X (ns.map .int) vs
  | _, _, .nil => .nil
  | _, _, .cons n t h => .cons repI (reps_ints h)
theorem entry0 {σ : Sig} {G : PySem.Str → Gl} {L : Addr} {Fs : List (Addr × Know)} {M : Mut} {X : Led} {s : Shared} {params : List PySem.Str} {sc : Scope} {own : List PySem.Str} {cs : List (PySem.Str × Addr)} {binds : List (PySem.Str × Value)} {r : Option Addr}
    (D : DefOk params sc) (hcs : cs = cellsFrom (L + 1) sc.names []) (hcM : ∀ p ∈ cs, p.2 ∉ M.map (·.1)) (hr : ∀ a, r = some a → (a, RowO) ∈ M) (S : St σ L (knowL sc.names binds) Fs (cellsM (fun x => sc.names.lookup x) binds cs ++ M) X s) :
    RelS σ r (cxOf G sc.names own) cs (List.replicate sc.names.length .u) [] L (knowL sc.names binds) Fs (cellsM (fun x => sc.names.lookup x) binds cs ++ M) M X s := by
  refine ⟨S, hr, fun x i b h1 h2 h3 => ?_, ?_, fun p hp => List.mem_append_right _ hp, fun x hx => List.mem_map.mpr ⟨_, knowL_has hx, rfl⟩, fun x c hx hc => ⟨⟨_, List.mem_append_left _ (List.mem_map.mpr ⟨_, mem_of_lookup hc, rfl⟩)⟩, hcM _ (mem_of_lookup hc)⟩, List.nodup_nil, fun _ h => nomatch h⟩
  · rw [List.getElem?_replicate] at h2
    split at h2
    · cases h2; exact absurd rfl h3
    · cases h2
  · rw [List.length_replicate]; rfl
theorem ints_of {σ : Sig} {r : Option Addr} {X : Led} : ∀ {l : List PV} {vs : List Value}, IntPs l → Reps σ r X l vs → ∃ ns, IntsAre vs ns
  | [], vs, _, h => by rw [h.inv0]; exact ⟨[], .nil⟩
  | p :: l, vs, hi, h => by
    refine h.inv fun v vs' h2 h3 => ?_
    obtain ⟨i, rfl⟩ := hi p (.head _)
    refine rep_int h2 fun t => ?_
    obtain ⟨ns, h4⟩ := ints_of (fun p hp => hi p (.tail _ hp)) h3
    exact ⟨i :: ns, .cons _ _ h4⟩
section
variable {σ : Sig} {r : Option Addr} {A : Around} {E : Value → Shared → Prop} {L : Addr} {m : Know} {Fs : List (Addr × Know)} {M : Mut} {X : Led} {s : Shared} {k : Nat} {env : Env}
theorem r_slice {sx : Expr} {p6 p7 p5 : Pos} {j1 : Nat} {y : Nat} {Q : Value → Shared → Prop} (ht : ∀ o r : Value, letTemporaryGo sx o r = pure ()) (h : wpAny σ.M A (eval sx env) (fun v s' => ∃ (l : Addr) (vs : List Value) (L' : Addr) (m' : Know) (Fs' : List (Addr × Know)) (M' : Mut) (X' : Led), v = .ref l ∧ St σ L' m' Fs' M' X' s' ∧ (∀ s, St σ L' m' Fs' M' X' s → s.heap.IsList l vs.toArray) ∧ vs.length ≤ 2 ^ 20 ∧
      ∀ a X'' s'', Sub X' X'' → St σ L' m' Fs' ((a, LsP (vs.take y)) :: M') X'' s'' → Q (.ref a) s'') E s) :
    wpAny σ.M A (eval (.Subscript sx (.Slice none (some (.Constant (.int (y : Int)) j1 p5)) none p6) p7) env) Q E s := by
  have hsl : sizeLine = 16777216 := sizeLine_eq
  refine wpAny_Subscript_list_slice (wpAny_mono h (fun v s1 h1 => ?_) fun _ _ e => e) ht
  obtain ⟨l, vs, L', m', Fs', M', X', rfl, S, hl, hz, H⟩ := h1
  refine wpAny_pure (r_int (k := j1) (pos := p5) S fun t s2 S2 => ?_)
  refine ⟨l, vs.toArray, none, some (y : Int), rfl, hl _ S2, by simp; omega, .none, .int _ _, ?_⟩
  rw [slice_upto]
  have S3 := S2.pushX (o := { cls := .type "slice", data := .fields #[.none, .int y t, .none] })
  have S4 := S3.pushM (P := LsP (vs.take y)) (o := { cls := .type "list", data := .seq (vs.take y).toArray }) ⟨0, rfl⟩
  have e : ((s2.heap.push { cls := .type "slice", data := .fields #[.none, .int y t, .none] }).objs.size) = s2.heap.objs.size + 1 := Heap.size_push ..
  simp only [e] at S4
  exact H _ _ _ (Sub.cons _ _) S4
theorem t_row_of (hK : KK σ) {name qual : PySem.Str} {pms : Arguments} {sc : Scope} {dV kV doc pm cdv ct oc : Value} {an od : Option Addr} {osl : Array (Option Value)} {B : List Stmt} {p21 p1 p2 p3 p4 p5 p6 p7 p8 p9 p10 p11 p12 p13 p14 p15 p16 p17 p18 p19 p20 : Pos} {j1 j2 : Nat}
    (h1 : σ.K.lookup 434 = some ⟨oc, od, .func (fnOf name qual pms [.Assign [.Name "row" p1] (.List [] p2) p3, .For (.Name "cell" p4) (.Subscript (.Name "script" p21) (.Slice none (some (.Constant (.int 40) j1 p5)) none p6) p7) B [] p8,
      .Assign [.Name "row" p9] (.Subscript (.Name "row" p10) (.Slice none (some (.Constant (.int 160) j2 p11)) none p12) p13) p14, .Expr (.Call (.Attribute (.Name "row" p15) "reverse" p16) [] [] p17) p18, .Return (some (.Name "row" p19)) p20] sc dV kV doc pm an cdv ct), osl⟩) (h2 : codeIn σ.K cdv qual = true) (h3 : defOk ["script"] sc = true) (h4 : sc.names.length = 6) (l1 : sc.names[1]? = some (Str.ofString "row", NameKind.local)) (l0 : sc.names[0]? = some (Str.ofString "script", NameKind.local)) (c2 : compSs 60 (cxOf G0 sc.names ["row"]) B = rowBody) (i1 : isVar (cxOf G0 sc.names ["row"]) "row" = some 1) (i2 : isVar (cxOf G0 sc.names ["row"]) "cell" = some 2) (hl17 : (p16.endLine == p17.line) = true) (hf : (∀ (env : Env) (x : Value), foldedSetIterable (.Subscript (.Name "script" p21) (.Slice none (some (.Constant (.int 40) j1 p5)) none p6) p7) env x = pure x)) (hb : ∀ s v0, BindsTo s (fnOf name qual pms [.Assign [.Name "row" p1] (.List [] p2) p3, .For (.Name "cell" p4) (.Subscript (.Name "script" p21) (.Slice none (some (.Constant (.int 40) j1 p5)) none p6) p7) B [] p8,
      .Assign [.Name "row" p9] (.Subscript (.Name "row" p10) (.Slice none (some (.Constant (.int 160) j2 p11)) none p12) p13) p14, .Expr (.Call (.Attribute (.Name "row" p15) "reverse" p16) [] [] p17) p18, .Return (some (.Name "row" p19)) p20] sc dV kV doc pm an cdv ct) ⟨[v0], []⟩ [("script", v0)]) (Pm : Prims σ) {ns : List Int} {lvs : List Value} {la : Addr} {Q : Value → Shared → Prop} (S : St σ L m Fs M X s) (hR : Rm A 2 (L :: Fs.map (·.1))) (hl : ns.length ≤ 100) (hli : σ.W₀.IsList la lvs.toArray) (hin : IntsAre lvs ns)
    (H : ∀ a X' s', Sub X X' → St σ L m Fs ((a, RowO) :: M) X' s' → Q (.ref a) s') : wpAny σ.M A (call (.ref 434) [.ref la]) Q E s := by
  have hsl : sizeLine = 16777216 := sizeLine_eq
  have D := defOk_says h3
  refine r_callC (k := 1) D S hR h1 h2 (hb s _) rfl fun env L' cs s' V hfr hk hcs hcn hap hcM S' hR' => ?_
  have E0 := entry0 (r := none) (G := G0) (own := ["row"]) D hcs hcM (fun _ h => nomatch h) S'
  have T := cxs_of (G := G0) (own := ["row"]) D hcs hcn hap
  have hG : GOK σ (cxOf G0 sc.names ["row"]) := gok_of (glob_ok hK)
  obtain ⟨ev, tv⟩ := ok_all (kok hK) 60
  rw [h4] at E0
  have nrow : (Str.ofString "row", NameKind.local) ∈ sc.names := List.mem_of_getElem? l1
  refine x_assign (List_ (r_spl0 (r_newList E0.st fun ra0 s1 Sa => ?_)))
  obtain ⟨m1, U0⟩ := Put.ex (v := Value.ref ra0) (E0.loc _ nrow)
  refine r_store Sa V nrow U0 fun s1' Sb => ?_
  have R1 := E0.push 1 Sa (Sub.refl X) noCell_list
  have S1 : RelS σ none (cxOf G0 sc.names ["row"]) cs [.u, .ol [], .u, .u, .u, .u] [(1, ra0)] L' m1 ((L, m) :: Fs) ((ra0, LsP []) :: (cellsM (fun x => sc.names.lookup x) [(Str.ofString "script", Value.ref la)] cs ++ M)) M X s1' := by
    refine ⟨Sb, R1.row, fun x i b h1 h2 h3 => ?_, ?_, R1.keep, fun x hx => by rw [U0.names]; exact R1.loc x hx, R1.cel, R1.ond, R1.oap⟩
    · match i, h2 with
      | 0, h2 => simp at h2; exact absurd h2.symm h3
      | 1, h2 =>
        simp at h2; subst h2
        have e := T.iinj _ _ _ h1 i1
        subst e
        exact ⟨.ref ra0, .inl ⟨nrow, U0.new⟩, .mk ra0 [] (.head _) (.head _) .nil⟩
      | i + 2, h2 =>
        have h2 : (List.replicate 4 Bd.u)[i]? = some b := h2
        rw [List.getElem?_replicate] at h2
        split at h2
        · cases h2; exact absurd rfl h3
        · cases h2
    · exact h4.symm
  have n0 : (Str.ofString "script", NameKind.local) ∈ sc.names := List.mem_of_getElem? l0
  have k0 : (Str.ofString "script", some (some (Value.ref la))) ∈ knowL sc.names [(Str.ofString "script", Value.ref la)] := knowL_has (binds := [(Str.ofString "script", Value.ref la)]) n0
  have hls : Reps σ none X (ns.map .int) lvs := reps_ints hin
  have hll : lvs.length = ns.length := hin.length
  refine x_for (r_slice (y := 40) (fun _ _ => rfl) (r_local S1.st V n0 (Put.old (by decide) U0 k0) ⟨la, lvs, _, _, _, _, _, rfl, S1.st, fun s Sx => (let ⟨o, ho, r⟩ := hli; ⟨o, Sx.W _ _ ho, r⟩), by omega, fun a X3 s3 hX3 S3 => ?_⟩)) (hf env)
  obtain ⟨o, ⟨on, rfl⟩, S3f⟩ := S3.freeze
  have hX4 : Sub X ((a, lst (lvs.take 40) on) :: X3) := hX3.trans (Sub.cons _ _)
  have S4 := S1.grow hX4 S3f
  have hrow : SvOK σ 60 := sv_ok (kok hK) Pm (fun n => (ok_all (kok hK) n).1) (fun n => (ok_all (kok hK) n).2) 60
  refine for_core (p := .list ((ns.map PV.int).take 40)) (Q := fun fl ρ' => match fl with | .next => ∃ acc b2 b3 b4, IntPs acc ∧ acc.length ≤ 2 ^ 20 ∧ ρ' = [.u, .ol acc, b2, b3, b4, .u] | _ => False) hrow T hG V (fun h => nomatch h) hR' S4 S.mnd i2 (repL (.head _) ((hls.mono hX4).take 40)) rfl (fun _ _ h => h) ?_ (fun O5 m5 M5 X5 s5 ρ5 hX5 S5 hp5 => ?_) fun _ _ _ _ _ _ _ _ _ _ _ hq => hq.elim
  · rw [c2]
    refine loop_row _ _ [] .u .u .u (fun p hp => ?_) (fun p hp => nomatch hp) (by simp; omega) fun acc b2 b3 b4 h5 h6 => ⟨acc, b2, b3, b4, h5, by simp at h6; omega, rfl⟩
    obtain ⟨i, _, rfl⟩ := List.mem_map.mp (List.mem_of_mem_take hp)
    exact ⟨i, rfl⟩
  obtain ⟨acc, b2, b3, b4, ha1, ha2, rfl⟩ := hp5
  obtain ⟨rv, q1, q2⟩ := S5.at i1 (b := .ol acc) rfl (by simp)
  obtain ⟨ra, rvs, q3, q4, q5⟩ := q2
  have hrl : rvs.length = acc.length := q5.length.symm
  refine x_assign (r_slice (y := 160) (fun _ _ => rfl) (s_name V S5.st q1 ⟨ra, rvs, _, _, _, _, _, rfl, S5.st, fun s Sx => Sx.listOwn q4, by omega, fun a6 X6 s6 hX6 S6 => ?_⟩))
  obtain ⟨m7, U⟩ := Put.ex (v := Value.ref a6) (S5.loc _ nrow)
  refine r_store S6 V nrow U fun s7 S7 => ?_
  refine x_expr (r_meth F.plainAttrs_list F.slot_list_reverse F.type_list_reverse (r_local S7 V nrow U.new ⟨on_own S7 (.head _), r_spl0 (r_reverse S7 .head (by rw [List.length_take]; omega) fun s8 S8 => ⟨rfl, ?_⟩)⟩) rfl rfl hl17 rfl) (inter_no V) rfl
  refine x_ret (r_local S8 V nrow U.new ?_)
  have hnd : (((a6, RowO) :: M).map (·.1)).Nodup := by
    refine List.nodup_cons.mpr ⟨fun h => ?_, S.mnd⟩
    obtain ⟨p, hp, e⟩ := List.mem_map.mp h
    exact (List.nodup_cons.mp S8.mnd).1 (by rw [← show p.1 = a6 from e]; exact List.mem_map.mpr ⟨p, S5.keep p hp, rfl⟩)
  obtain ⟨ms, hms⟩ := ints_of (l := (acc.take 160).reverse) (fun p hp => ha1 p (List.mem_of_mem_take (List.mem_reverse.mp hp))) (q5.take 160).reverse
  have S9 := S8.weak (P' := RowO) .head fun o ho => ⟨_, ho, by rw [List.length_reverse, List.length_take]; omega, ms, hms⟩
  have S10 := (S9.subM (M₀ := (a6, RowO) :: M) (fun p hp => by
    rcases List.mem_cons.mp hp with rfl | hp
    · exact .head _
    · exact .tail _ (S5.keep p hp)) hnd).pop
  exact H a6 X6 s8 (hX4.trans (hX5.trans hX6)) S10
theorem t_row (hK : KK σ) (Pm : Prims σ) {ns : List Int} {lvs : List Value} {la : Addr} {Q : Value → Shared → Prop} (S : St σ L m Fs M X s) (hR : Rm A 2 (L :: Fs.map (·.1))) (hl : ns.length ≤ 100) (hli : σ.W₀.IsList la lvs.toArray) (hin : IntsAre lvs ns)
    (H : ∀ a X' s', Sub X X' → St σ L m Fs ((a, RowO) :: M) X' s' → Q (.ref a) s') : wpAny σ.M A (call (.ref 434) [.ref la]) Q E s :=
  t_row_of hK (by rw [hK]; exact at_434 _) (by rw [hK]; kernel_rfl) (by kernel_rfl) (by kernel_rfl) (by kernel_rfl) (by kernel_rfl) (by kernel_rfl) (by kernel_rfl) (by kernel_rfl) (by kernel_rfl) (by intro _ _; rfl) (fun s v0 => BindsTo.of_eq rfl) Pm S hR hl hli hin H
end
end Mine

end
section
open PySem PySem.W PySem.Calls PyProof.Rows PySem.Spec
set_option Elab.async false
set_option maxRecDepth 100000
set_option maxHeartbeats 8000000
set_option linter.unusedVariables false
namespace Mine
theorem codeHd507 (P : Params) : codeHdIn (frag P) 507 505 = true := by kernel_rfl
noncomputable def BM (σ : Sig) : Prop := ∃ bm ob, σ.mg "__builtins__" = some (.ref bm) ∧ bm ≠ builtinsNs ∧ σ.W₀.get? bm = some ob ∧ ob.cls = .type "module" ∧ ob.dict = some builtinsNs ∧ ob.data = .plain
theorem codeAmong_more {a b : Int} {c cv : Value} {pos : Pos} : ∀ l : List Value, TriplesOk l → codeAmong pos (l ++ [rawInt a, rawInt b, c]) = some cv → codeAmong pos l = some cv ∨ cv = c := by
  intro l
  fun_induction TriplesOk l with
  | case1 =>
    intro _ h
    simp only [List.nil_append, rawInt, codeAmong] at h
    split at h
    · exact .inr (Option.some.inj h).symm
    · simp at h
  | case2 i t j u c' rest ih =>
    intro ht h
    simp only [List.cons_append, codeAmong] at h ⊢
    split at h
    · rename_i q; rw [if_pos q]; exact .inl h
    · rename_i q; rw [if_neg q]; exact ih ht h
  | case3 => intro h; exact h.elim
theorem TabOK.snoc {X X' : Led} {ps : Array Value} {pos : Pos} {c : Addr} {oc : Obj} {vs : Array Value} {t : Tok} (T : TabOK X ps) (hs : Sub X X') (hc : (c, oc) ∈ X') (hd : oc.data = .fields vs) (h1 : vs[1]? = some (.str lamQual t)) :
    TabOK X' (ps ++ #[rawInt pos.line, rawInt pos.col, .ref c]) := by
  have e : (ps ++ #[rawInt pos.line, rawInt pos.col, .ref c]).toList = ps.toList ++ [rawInt pos.line, rawInt pos.col, .ref c] := by simp
  refine ⟨by rw [e]; exact TriplesOk_snoc _ _ _ _ T.1, fun pos' cv h => ?_⟩
  rw [e] at h
  rcases codeAmong_more _ T.1 h with h | rfl
  · exact (T.mono hs).2 pos' cv h
  · exact ⟨c, oc, vs, t, rfl, hc, hd, h1⟩
theorem noCell_tab {ps : Array Value} : NoCell (fun o => o = tabObj ps) := by rintro o rfl v h; cases h
noncomputable abbrev noA : Arguments := ⟨[], [], none, [], [], none, []⟩
noncomputable abbrev lamObj (b : Expr) (sc : Scope) (cl : List (PySem.Str × Addr)) (pm cv ctv : Value) : Obj := { cls := .type "function", data := .func (kla_fn "<lambda>" lamQual noA b sc cl pm cv ctv) }
section
variable {σ : Sig} {r : Option Addr} {cx : Cx} {cs cl : List (PySem.Str × Addr)} {ρ : List Bd} {O : Own} {A : Around} {E : Value → Shared → Prop} {L : Addr} {m : Know} {Fs : List (Addr × Know)} {M M₀ : Mut} {X : Led} {s : Shared} {env : Env} {k : Nat}
theorem k_lam (hK : KK σ) (hB : BM σ) (T : CxS cx cs) (V : EnvIs env L cx.ns cs) (hT : EnvT cx env) (htb : cx.tb = true) (S : RelS σ r cx cs ρ O L m Fs M M₀ X s) (hρ : isTab ρ[0]?) {sc : Scope} {b : Expr} {lp : Pos} (e1 : clList sc.names cs [] = some cl) {Q : Value → Shared → Prop}
    (H : ∀ fa c oc vs t pm ctv O' M' X' s', Sub X X' → RelS σ r cx cs ρ O' L m Fs M' M₀ X' s' → (fa, lamObj b sc cl pm (.ref c) ctv) ∈ X' → (c, oc) ∈ X' → oc.data = .fields vs → vs[1]? = some (.str lamQual t) → Q (.ref fa) s') :
    wpAny σ.M A (makeFunction "<lambda>" (env.qual ++ "<lambda>") noA (.expr b) sc env [] [] [] lp lp.line) Q E s := by
  obtain ⟨hcode, hqual, y, hy⟩ := hT htb
  rw [hqual]
  have hρ0 : ρ[0]? = some .tab := by
    unfold isTab at hρ
    split at hρ
    · assumption
    · exact hρ.elim
  obtain ⟨w, hw, hO, ps, hM, hTab⟩ := S.val y 0 .tab hy hρ0 (by simp)
  have hg : s.heap.Ns mainGlobals σ.mg := S.st.ok.g.keeps S.st.W
  have C : CodeHd s.heap 507 505 := codeHd_of_K S.st.live (by rw [hK]; exact codeHd507 _)
  obtain ⟨op, hP, rfl⟩ := S.st.own _ hM
  have hP : s.heap.get? 505 = some (tabObj ps) := hP
  have hn5 : σ.W₀.get? 505 = none := (S.st.new 505 (.tail _ (List.mem_append_right _ (List.mem_map.mpr ⟨_, hM, rfl⟩)))).1
  have hgP : mainGlobals ≠ 505 := by decide
  have hb : s.heap.BuiltinsAt σ.mg 505 := by
    obtain ⟨bm, ob, b1, b2, b3, b4, b5, b6⟩ := hB
    refine ⟨bm, ob, b1, b2, fun q => ?_, fun q => ?_, S.st.W _ _ b3, b4, b5, b6⟩
    · obtain ⟨o, es, ep, e, hd, _⟩ := S.st.ok.g
      rw [q, e] at b3; cases b3; rw [hd] at b6; cases b6
    · rw [q, hn5] at b3; cases b3
  have hcl : closureFor sc env = pure cl := closure_of (by rw [V.cells]; exact e1)
  cases hca : codeAmong lp ps.toList with
  | some cv =>
    obtain ⟨c, oc, vs, t, rfl, h2, h3, h4⟩ := hTab.2 _ _ hca
    refine kla_makeFunctionHit hcl V.glob hg hcode C hP hTab.1 hca hb fun ctv h' tk hk hz => ?_
    have S1 := (S.st.grow (s' := { s with heap := h', toks := tk }) hk).pushX (o := lamObj b sc cl ((σ.mg "__name__").getD .none) (.ref c) ctv)
    exact H _ c oc vs t _ ctv O M _ _ (Sub.cons _ _) (S.grow (Sub.cons _ _) S1) (.head _) (.tail _ h2) h3 h4
  | none =>
    refine kla_makeFunction hcl V.glob hg hcode C hP hTab.1 hca hgP hb fun c' ctv h' tk hx hge hlt hrec htb' => ?_
    obtain ⟨c2, oc, vs, t, e2, hoc, hd, hv⟩ := hrec
    cases e2
    obtain ⟨M1, U⟩ := Ch.ex (fun o => o = tabObj (ps ++ #[rawInt lp.line, rawInt lp.col, .ref c'])) hM
    have S1 := S.st.setMut (s' := { s with heap := h', toks := tk }) U (fun b o hb e => hx b o hb e) ⟨_, htb', rfl⟩
    have hf : c' ∉ L :: (Fs.map (·.1) ++ M1.map (·.1)) := fun q => by
      rw [U.addrs] at q
      exact absurd (S.st.own_lt q) (Nat.not_lt.mpr hge)
    have S2 := S1.addX hoc hf
    have S3 := S2.pushX (o := lamObj b sc cl ((σ.mg "__name__").getD .none) (.ref c') ctv)
    have hX : Sub X ((h'.objs.size, lamObj b sc cl ((σ.mg "__name__").getD .none) (.ref c') ctv) :: (c', oc) :: X) := fun p hp => .tail _ (.tail _ hp)
    have hw' : Holds cx.ns cs m M1 y w := Holds.chg hw S hO U
    have S4 := (S.chg hO U S3 hX noCell_tab).bind2 T hy hw' (b := .tab) ⟨hO, _, U.new, hTab.snoc hX (.tail _ (.head _)) hd hv⟩
    have e0 : ρ.set 0 .tab = ρ := by
      obtain ⟨h1, h2⟩ := List.getElem?_eq_some_iff.mp hρ0
      rw [← h2]; exact List.set_getElem_self h1
    rw [e0] at S4
    exact H _ c' oc vs t _ ctv O M1 _ _ hX S4 (.head _) (.tail _ (.head _)) hd hv
end
end Mine

end
section
open PySem PySem.W PySem.Calls PyProof.Rows PySem.Spec
set_option Elab.async false
set_option maxRecDepth 100000
set_option maxHeartbeats 8000000
set_option linter.unusedVariables false
namespace Mine
section
variable {σ : Sig} {r : Option Addr} {cx : Cx} {cs cl : List (PySem.Str × Addr)} {ρ : List Bd} {A : Around} {E : Value → Shared → Prop} {L C : Addr} {m : Know} {Fs Fs' : List (Addr × Know)} {M M₀ : Mut} {X : Led} {s s' : Shared} {env : Env} {k : Nat} {sc : Scope}
theorem lamOk_says (h : lamOk cx sc = true) : (∀ p ∈ sc.names, p.2 = .globalImplicit ∨ (p.2 = .free ∧ cx.ns.lookup p.1 = some .cell)) ∧ lookNames sc.names sc.names = true ∧ oddNames sc.names = true ∧ sc.kind = .function ∧ sc.isGenerator = false ∧ sc.isCoroutine = false := by
  unfold lamOk at h
  simp only [Bool.and_eq_true, beq_iff_eq, List.all_eq_true, Bool.or_eq_true, Bool.not_eq_true'] at h
  obtain ⟨⟨⟨⟨⟨h1, h2⟩, h3⟩, h4⟩, h5⟩, h6⟩ := h
  exact ⟨fun p hp => h1 p hp, h2, h3, h4, h5, h6⟩
theorem inLam_ix {y : PySem.Str} {i : Nat} (h : (inLam cx sc).ix.lookup y = some i) : (y, NameKind.free) ∈ sc.names ∧ isVar cx y = some i := by
  have hm := lookup_mem' h
  unfold inLam at hm
  obtain ⟨⟨z, kd⟩, hz, e⟩ := List.mem_filterMap.mp hm
  cases kd <;> simp at e
  obtain ⟨e1, rfl⟩ := e; exact ⟨hz, e1⟩
theorem GOK.lam (hG : GOK σ cx) : GOK σ (inLam cx sc) := ⟨hG.fn, hG.bi, fun y i h => hG.wf _ _ (isVar_mem (inLam_ix h).2).2⟩
theorem Rel.lam (hl : lamOk cx sc = true) (V : EnvIs env L cx.ns cs) (S : Rel σ r cx cs ρ L m Fs M X s) (hcl : ∀ q ∈ cl, cs.lookup q.1 = some q.2) (hcf : ∀ y, (y, NameKind.free) ∈ sc.names → ∃ c, (y, c) ∈ cl) (S' : St σ C [] Fs' M X s') :
    Rel σ r (inLam cx sc) cl ρ C [] Fs' M X s' := by
  obtain ⟨h1, h2, h3, h4, h5, h6⟩ := lamOk_says hl
  refine ⟨S', S.row, fun y i b hi hb hne => ?_, fun y hy => ?_, S.len⟩
  · obtain ⟨_, hix⟩ := isVar_mem hi
    obtain ⟨hf, hv'⟩ := inLam_ix hix
    obtain ⟨w, q1, q2⟩ := S.val y i b hv' hb hne
    have hcell : cx.ns.lookup y = some .cell := by
      rcases h1 _ hf with e | ⟨_, e⟩
      · cases e
      · exact e
    obtain ⟨c, e1, e2⟩ := S.cell_of V hcell q1
    obtain ⟨c', hc'⟩ := hcf y hf
    exact ⟨w, .inr ⟨.inr hf, c, by rw [lookup_of_all hcl hc', e1], e2⟩, q2⟩
  · rcases h1 _ hy with e | ⟨e, _⟩ <;> cases e
theorem lam_call (hK : KK σ) (hG : GOK σ cx) (V : EnvIs env L cx.ns cs) (S : Rel σ r cx cs ρ L m Fs M X s) {C₁ : Addr} {m₁ : Know} {F₁ : List (Addr × Know)} {s1 : Shared} (S1 : St σ C₁ m₁ F₁ M X s1) (hR : Rm A (k + 1) (C₁ :: F₁.map (·.1))) (hl : lamOk cx sc = true)
    (hcl : ∀ q ∈ cl, cs.lookup q.1 = some q.2) (hcf : ∀ y, (y, NameKind.free) ∈ sc.names → ∃ c, (y, c) ∈ cl) {b : Expr} {fa c : Addr} {oc : Obj} {vs : Array Value} {t : Tok} {pm ctv : Value} (hfa : (fa, lamObj b sc cl pm (.ref c) ctv) ∈ X) (hc : (c, oc) ∈ X) (hd : oc.data = .fields vs) (hv : vs[1]? = some (.str lamQual t))
    {Q : PV → Prop} {R : PySem.Str → Prop} {Q' : Value → Shared → Prop} (hw : wpE (Ct σ) k ρ (compE 60 (inLam cx sc) b) Q R) (H : ∀ v p s' X', Sub X X' → St σ C₁ m₁ F₁ M X' s' → Rep σ r X' p v → Q p → Q' v s')
    (HX : ∀ v msg s' X', Sub X X' → Raised σ C₁ m₁ F₁ M X' s' v msg → R msg → E v s') : wpAny σ.M A (call (.ref fa) []) Q' E s1 := by
  obtain ⟨h1, h2, h3, h4, h5, h6⟩ := lamOk_says hl
  have hr : A.depth < recursionLimit := by have := hR.dp; omega
  refine wpAny_call (kla_callFunE hr (S1.fz _ hfa) rfl h6 h5 rfl ⟨c, oc, vs, t, rfl, S1.fz _ hc, hd, hv⟩ ?_)
  refine wpAny_of_eq (a := []) rfl ?_
  refine wpAny_newFunctionEnv (fun p hp e => ?_) (fun _ h => nomatch h) (fun h' hns hsb => ?_) h4
  · rcases h1 p hp with e' | ⟨e', _⟩ <;> rw [e'] at e <;> cases e
  have hk : ∀ b o, s1.heap.get? b = some o → h'.get? b = some o := fun b o e => by
    rw [hsb.2 b (Nat.ne_of_lt (Heap.lt_size e))]; exact Heap.get?_push_of_some _ e
  have S2 := S1.grow (s' := { s1 with heap := h', toks := s1.toks + 0 }) hk
  have S3 := S2.enter (m' := []) ⟨List.nodup_nil, _, hns, fun _ h => nomatch h⟩ S1.fresh S1.freshW S1.freshX
  refine ⟨S1.ok.nolimit.keeps S2.W, kla_codeExpr ?_⟩
  have V' : EnvIs (newEnv sc s1.heap.objs.size mainGlobals cl (lamQual ++ ".<locals>.") (some fa) (.ref c) none builtinsNs) s1.heap.objs.size (inLam cx sc).ns cl := ⟨rfl, h4, rfl, rfl, rfl, lookNames.says h2, oddNames.says h3⟩
  have hR' := hR.deeper (env := newEnv sc s1.heap.objs.size mainGlobals cl (lamQual ++ ".<locals>.") (some fa) (.ref c) none builtinsNs) h4 rfl
  refine (ok_all (kok hK) 60).1 (Fs := (C₁, m₁) :: F₁) hG.lam V' hR' (S.lam hl V hcl hcf S3) hw (fun v p s' X' hX S' hv' hq => ?_) fun v msg s' X' hX hrz hm => ?_
  · exact H v p s' X' hX S'.st.pop hv' hq
  · exact p_leave hrz rfl h4 (hR.low (Nat.zero_le _)) fun s3 hr3 => HX _ _ _ _ hX hr3 hm
end
end Mine

end
section
open PySem PySem.W PySem.Calls PyProof.Rows PySem.Spec
set_option Elab.async false
set_option maxRecDepth 100000
set_option maxHeartbeats 8000000
set_option linter.unusedVariables false
namespace Mine
section
variable {σ : Sig} {A : Around} {E : Value → Shared → Prop} {L : Addr} {m : Know} {Fs : List (Addr × Know)} {M : Mut} {X : Led} {s : Shared} {env : Env} {k : Nat}
theorem exc_fld {e d : Addr} {T : Value} : ∀ o, ExcP d T o → FlP 1 T o := fun o ho => by obtain ⟨_, _, vs, h1, h2⟩ := ho; exact ⟨vs, h1, h2⟩
theorem s_flight {e d T : Addr} {Q : Unit → Shared → Prop} (S : St σ L m Fs M X s) (he : (e, ExcP d (.ref T)) ∈ M) (hT : (T, TbP) ∈ M) (h : ∀ s', St σ L m Fs M X s' → Q () s') : wpAny σ.M A (setFlight (.ref e) none) Q E s := by
  unfold setFlight
  refine wpAny_bind (s_field S he (v := .ref T) (fun o ho => by obtain ⟨_, _, vs, h1, h2⟩ := ho; exact ⟨vs, h1, h2⟩) ?_)
  rw [if_pos (show (Value.ref T != Value.none) = true from by simp)]
  exact s_setField S (P := TbP) (P' := TbP) (Ch.same hT) (fun o ho => by obtain ⟨vs, h1, h2⟩ := ho; exact ⟨vs, h1, (Array.getElem?_eq_some_iff.mp h2).1⟩) (fun o vs ho hd => by
      obtain ⟨vs', h1, h2⟩ := ho
      rw [hd] at h1; cases h1
      exact ⟨_, rfl, by simp [(Array.getElem?_eq_some_iff.mp h2).1]⟩) h
theorem p_note {v : Value} {msg : PySem.Str} {envs : List Env} {Q : Unit → Shared → Prop} (hr : Raised σ L m Fs M X s v msg) (hfr : env.frame = some L) (f1 : A.frames = some (env :: envs)) (f2 : ∀ env' ∈ env :: envs, env'.scope.kind = .function ∧ ∃ Lf, env'.frame = some Lf ∧ Lf ∈ L :: Fs.map (·.1))
    (H : ∀ e d T s', v = .ref e → St σ L m Fs ((e, ExcP d (.ref T)) :: (T, TbP) :: (d, MsgP msg) :: M) X s' → Q () s') : wpAny σ.M A (noteFrame v env) (fun _ s' => wpAny σ.M A (setFlight v none) Q E s') E s := by
  obtain ⟨e, d, rfl, h⟩ := hr
  unfold noteFrame
  simp only [hfr]
  rcases h with ⟨T, S⟩ | S
  · refine wpAny_bind (s_field S (.head _) (v := .ref T) (fun o ho => by obtain ⟨_, _, vs, h1, h2⟩ := ho; exact ⟨vs, h1, h2⟩) ?_)
    rw [if_pos (show (Value.ref T != Value.none) = true from by simp)]
    refine wpAny_bind (s_field S (.tail _ (.head _)) (v := .none) (fun o ho => by obtain ⟨vs, h1, h2⟩ := ho; exact ⟨vs, h1, h2⟩) ?_)
    rw [if_neg (show ¬ ((Value.none == rawInt L) = true) from by simp [rawInt])]
    refine wpAny_bind (s_setField S (P := TbP) (P' := TbP) (.tail .head) (fun o ho => by obtain ⟨vs, h1, h2⟩ := ho; exact ⟨vs, h1, (Array.getElem?_eq_some_iff.mp h2).1⟩) (fun o vs ho hd => by
      obtain ⟨vs', h1, h2⟩ := ho
      rw [hd] at h1; cases h1
      exact ⟨_, rfl, by simp [(Array.getElem?_eq_some_iff.mp h2).1]⟩) fun s1 S1 => ?_)
    refine s_entry S1 f1 f2 hfr fun T' s2 S2 => H e d T' _ rfl ?_
    have S4 := S2.permM (M' := (T, TbP) :: (e, ExcP d (.ref T')) :: (T', TbP) :: (d, MsgP msg) :: M) ((List.Perm.cons _ (List.Perm.swap _ _ _)).trans (List.Perm.swap _ _ _))
    exact S4.dropM
  · refine wpAny_bind (s_field S (.head _) (v := .none) (fun o ho => by obtain ⟨_, _, vs, h1, h2⟩ := ho; exact ⟨vs, h1, h2⟩) ?_)
    rw [if_neg (by decide)]
    exact s_entry S f1 f2 hfr fun T' s2 S2 => H e d T' _ rfl S2
theorem s_goes {ns : List (PySem.Str × NameKind)} {cs : List (PySem.Str × Addr)} {n : PySem.Str} {pos : Pos} {Q : Unit → Shared → Prop} (V : EnvIs env L ns cs) (hn : (n, NameKind.local) ∈ ns) (S : St σ L m Fs M X s) (h : ∀ m' s', St σ L m' Fs M X s' → Q () s') :
    wpAny σ.M A (do bindName env n .none; unbindBehindTheSuite env n pos) Q E s := by
  obtain ⟨nd, f, hf, hp⟩ := S.cur
  refine wpAny_nameGoes (V.look _ hn) (V.loc ▸ hf) (by rw [V.kind]; rfl) fun h' m' hn' hs => ?_
  rw [V.loc] at hn' hs
  refine h (m.map fun p => (p.1, none)) _ (S.setCur (s' := { s with heap := h', toks := s.toks + 1 }) (fun b o hb e => (hs.2 b hb).trans e) ⟨?_, m', hn', fun p hp o ho => ?_⟩)
  · rw [List.map_map]; exact nd
  · obtain ⟨q, _, rfl⟩ := List.mem_map.mp hp
    cases ho
theorem keeps_fn {σ : Sig} {fa : Addr} {o : Obj} {fd : FuncData} (hd : o.data = .func fd) (h : Heap) (X : h.get? fa = some o) : ∃ k, (k = Keeper.frame ∨ k = Keeper.machine ∨ k = Keeper.boundFrame) ∧ Looks σ.M h (keeperOf (.ref fa)) k := by
  refine ⟨.frame, .inl rfl, (Looks.ld (part := none) X).andThen ?_⟩
  obtain ⟨c, d, dt, sl⟩ := o
  cases hd
  exact .now
theorem p_kept_of (hK : KK σ) {name qual : PySem.Str} {pms : Arguments} {sc : Scope} {dV kV doc pm cdv ct oc : Value} {an od : Option Addr} {osl : Array (Option Value)} {p1 p2 p3 p4 p5 p6 p7 p8 p9 : Pos}
    (h1 : σ.K.lookup 498 = some ⟨oc, od, .func (fnOf name qual pms [.Try [.Return (some (.Call (.Name "ask" p1) [] [] p2)) p3] [.ExceptHandler (some (.Name "Refusal" p4)) (some "error") [.Return (some (.Attribute (.Name "error" p5) "message" p6)) p7] p8] [] [] p9] sc dV kV doc pm an cdv ct), osl⟩) (h2 : codeIn σ.K cdv qual = true) (h3 : defOk ["ask"] sc = true) (l0 : sc.names[0]? = some (Str.ofString "ask", NameKind.local)) (u4 : (∃ i : Nat, sc.names[i]? = some (Str.ofString "error", NameKind.local))) (u5 : (∃ i : Nat, sc.names[i]? = some (Str.ofString "Refusal", NameKind.globalImplicit))) (h5 : (sc.names.all fun p => p.2 != .cell) = true) (h7 : ∀ s v0, BindsTo s (fnOf name qual pms [.Try [.Return (some (.Call (.Name "ask" p1) [] [] p2)) p3] [.ExceptHandler (some (.Name "Refusal" p4)) (some "error") [.Return (some (.Attribute (.Name "error" p5) "message" p6)) p7] p8] [] [] p9] sc dV kV doc pm an cdv ct) ⟨[v0], []⟩ [("ask", v0)]) {fa : Addr} {o : Obj} {fd : FuncData} (S : St σ L m Fs M X s) (hR : Rm A (k + 1) (L :: Fs.map (·.1))) (hfa : (fa, o) ∈ X) (hd : o.data = .func fd) {Q' : Value → Shared → Prop}
    (hc : ∀ (A₁ : Around) (E₁ : Value → Shared → Prop) (L₁ : Addr) (m₁ : Know) (s₁ : Shared) (Q₁ : Value → Shared → Prop), St σ L₁ m₁ ((L, m) :: Fs) M X s₁ → Rm A₁ k (L₁ :: L :: Fs.map (·.1)) →
      (∀ v s' X', Sub X X' → St σ L₁ m₁ ((L, m) :: Fs) M X' s' → (∀ s'', St σ L m Fs M X' s'' → Q' v s'') → Q₁ v s') →
      (∀ v msg s' X', Sub X X' → Raised σ L₁ m₁ ((L, m) :: Fs) M X' s' v msg → (∀ t s'', St σ L m Fs M X' s'' → Q' (.str msg t) s'') → E₁ v s') → wpAny σ.M A₁ (call (.ref fa) []) Q₁ E₁ s₁) :
    wpAny σ.M A (call (.ref 498) [.ref fa]) Q' E s := by
  obtain ⟨i1, l1⟩ := u4
  obtain ⟨i2, l2⟩ := u5
  have D := defOk_says h3
  have hO : ExcO σ.K := by rw [hK]; exact excO_of _
  refine r_callC (k := k) D S hR h1 h2 (h7 _ _) rfl fun env L' cs s' V hfr hk hcs hcn hap hcM S' hR' => ?_
  have hc0 : cs = [] := by rw [hcs]; exact cells_none h5
  subst hc0
  have S2 : St σ L' (knowL sc.names [(Str.ofString "ask", Value.ref fa)]) ((L, m) :: Fs) M X s' := S'
  have n0 : (Str.ofString "ask", NameKind.local) ∈ sc.names := List.mem_of_getElem? l0
  have n1 : (Str.ofString "error", NameKind.local) ∈ sc.names := List.mem_of_getElem? l1
  have n2 : (Str.ofString "Refusal", NameKind.globalImplicit) ∈ sc.names := List.mem_of_getElem? l2
  have k0 : (Str.ofString "ask", some (some (Value.ref fa))) ∈ knowL sc.names [(Str.ofString "ask", Value.ref fa)] := knowL_has (binds := [(Str.ofString "ask", Value.ref fa)]) n0
  have k1 : Str.ofString "error" ∈ (knowL sc.names [(Str.ofString "ask", Value.ref fa)]).map (·.1) := List.mem_map.mpr ⟨_, knowL_has n1, rfl⟩
  obtain ⟨envs, f1, f2⟩ := rm_frames (hR.low (Nat.zero_le _)) hfr hk
  refine wpAny_execs_cons (wpAny_Try_except (x_ret (wpAny_Call_ofName (r_local S2 V n0 k0 (callWith_of (P := fun h => h.get? fa = some o) rfl (keeps_fn hd) (args_split rfl (r_spl0 ⟨S2.fz _ hfa, ?_⟩)))))))
  refine hc _ _ L' _ _ _ S2 hR' (fun v s3 X3 hX3 S3 hq => hq _ S3.pop) fun v msg s3 X3 hX3 hrz hq => ?_
  refine p_note hrz hfr f1 f2 fun e d T s4 hve S4 => ?_
  subst hve
  obtain ⟨nm, q, N, bs, hdct, sn, sub, ab, col, dd, q0, q1, q2, q3, q5, hlk⟩ := hO.ex
  refine wpAny_handleBy_cons (codeAny_handlers_test (r_global S4 V n2 (g_Refusal hK) ?_)) (by intro q; cases q)
  obtain ⟨oe, hoe, hce, _⟩ := S4.own _ (.head _)
  have hC := S4.live _ _ hlk
  have key : ∀ {Qb : Bool → Shared → Prop} {A' : Around} {E' : Value → Shared → Prop}, Qb true s4 → wpAny σ.M A' (excMatches (.ref e) (.ref 75)) Qb E' s4 := by
    intro Qb A' E' hQb
    obtain ⟨hh, g, dr, tk, os⟩ := s4
    exact wpAny_excMatches_sub_self hC hoe hce rfl hQb
  refine key ?_
  refine codeAny_handlers_suite_as (s_flight S4 (.head _) (.tail _ (.head _)) fun s5 S5 => ?_)
  obtain ⟨m6, U⟩ := Put.ex (v := Value.ref e) k1
  refine r_store S5 V n1 U fun s6 S6 => ?_
  refine x_ret (Attribute_any_ (r_local S6 V n1 U.new (e_get hK S6 (.head _) (.tail _ (.tail _ (.head _))) fun t s7 S7 => ?_)) (attr_plain (by intro _ _ _ h; cases h)))
  refine s_goes V n1 S7 fun m8 s8 S8 => ?_
  exact hq t _ S8.dropM.dropM.dropM.pop
theorem p_kept (hK : KK σ) {fa : Addr} {o : Obj} {fd : FuncData} (S : St σ L m Fs M X s) (hR : Rm A (k + 1) (L :: Fs.map (·.1))) (hfa : (fa, o) ∈ X) (hd : o.data = .func fd) {Q' : Value → Shared → Prop}
    (hc : ∀ (A₁ : Around) (E₁ : Value → Shared → Prop) (L₁ : Addr) (m₁ : Know) (s₁ : Shared) (Q₁ : Value → Shared → Prop), St σ L₁ m₁ ((L, m) :: Fs) M X s₁ → Rm A₁ k (L₁ :: L :: Fs.map (·.1)) →
      (∀ v s' X', Sub X X' → St σ L₁ m₁ ((L, m) :: Fs) M X' s' → (∀ s'', St σ L m Fs M X' s'' → Q' v s'') → Q₁ v s') →
      (∀ v msg s' X', Sub X X' → Raised σ L₁ m₁ ((L, m) :: Fs) M X' s' v msg → (∀ t s'', St σ L m Fs M X' s'' → Q' (.str msg t) s'') → E₁ v s') → wpAny σ.M A₁ (call (.ref fa) []) Q₁ E₁ s₁) :
    wpAny σ.M A (call (.ref 498) [.ref fa]) Q' E s :=
  p_kept_of hK (by rw [hK]; exact at_498 _) (by rw [hK]; kernel_rfl) (by kernel_rfl) (by kernel_rfl) ⟨1, by kernel_rfl⟩ ⟨2, by kernel_rfl⟩ (by kernel_rfl) (fun s v0 => BindsTo.of_eq rfl) S hR hfa hd hc
end
end Mine

end
section
open PySem PySem.W PySem.Calls PyProof.Rows PySem.Spec
set_option Elab.async false
set_option maxRecDepth 100000
set_option maxHeartbeats 8000000
set_option linter.unusedVariables false
namespace Mine
theorem p_keep {σ : Sig} (hK : KK σ) (hB : BM σ) {r : Option Addr} {cx : Cx} {cs : List (PySem.Str × Addr)} {k : Nat} {ρ : List Bd} {O : Own} {L : Addr} {m : Know} {Fs : List (Addr × Know)} {M M₀ : Mut} {X : Led} {s : Shared} {env : Env} {A : Around} {E : Value → Shared → Prop} {i : Nat}
    {f x : PySem.Str} {np lp pos : Pos} {b : Expr} {sc : Scope} {Q : List Bd → Prop} {Q' : Unit → Shared → Prop} (T : CxS cx cs) (hG : GOK σ cx) (V : EnvIs env L cx.ns cs) (hT : EnvT cx env) (htb : cx.tb = true) (hR : Rm A k (L :: Fs.map (·.1))) (S : RelS σ r cx cs ρ O L m Fs M M₀ X s) (hn : (M₀.map (·.1)).Nodup)
    (hi : isVar cx x = some i) (hg : glo cx f = .fn 498) (hl : lamOk cx sc = true) (hρ : isTab ρ[0]?) (hk : 3 ≤ k) (hw : wpE (Ct σ) (k - 2) ρ (compE 60 (inLam cx sc) b) (fun p => Q (ρ.set i (.v p))) (fun y => Q (ρ.set i (.v (.str y)))))
    (H : ∀ O' m' M' X' s' ρ', Sub X X' → RelS σ r cx cs ρ' O' L m' Fs M' M₀ X' s' → Q ρ' → Q' () s') :
    wpAny σ.M A (eval (.Call (.Name f np) [.Lambda ⟨[], [], none, [], [], none, []⟩ b sc lp] [] pos) env) (fun v s₁ => wpAny σ.M A (storeName env x v) Q' E s₁) E s := by
  obtain ⟨g1, g2⟩ := glo_fn hg
  obtain ⟨g3, g4⟩ := hG.fn _ _ g2
  obtain ⟨l1, _⟩ := lamOk_says hl
  obtain ⟨cl, e1, e2, _, e4⟩ := clList_ok (cs := cs) sc.names [] (fun _ h => nomatch h) fun y hy => T.cl y (by
    rcases l1 _ hy with e | ⟨_, e⟩
    · cases e
    · exact mem_of_lookup e)
  obtain ⟨k2, rfl⟩ : ∃ k2, k = k2 + 1 + 1 := ⟨k - 2, by omega⟩
  refine r_callD S.st V g1 g3 g4 (r_items (kla_eval rfl (k_lam hK hB T V hT htb S hρ e1 fun fa c oc vs t pm ctv O1 M1 X1 s1 hX1 S1 h1 h2 h3 h4 => r_spl0 ⟨S1.st.live, ?_⟩)) rfl) rfl
  refine p_kept (k := k2 + 1) hK S1.st hR h1 rfl fun A₁ E₁ L₁ m₁ s₁ Q₁ S3 hR1 hq hx => ?_
  refine lam_call (Fs := Fs) (k := k2) hK hG V (S1.rel T) S3 hR1 hl e2 e4 h1 h2 h3 h4 hw (fun v p s4 X4 hX4 S4 hrep hQ => ?_) fun v msg s4 X4 hX4 hrz hQ => ?_
  · exact hq v s4 X4 hX4 S4 fun s5 S5 => (S1.grow hX4 S5).store T V hi (b := .v p) hrep fun m' M' s6 S6 => H _ _ _ X4 _ _ (hX1.trans hX4) S6 hQ
  · exact hx v msg s4 X4 hX4 hrz fun t s5 S5 => (S1.grow hX4 S5).store T V hi (b := .v (.str msg)) (repS (σ := σ) (r := r) (X := X4)) fun m' M' s6 S6 => H _ _ _ X4 _ _ (hX1.trans hX4) S6 hQ
theorem prims_ok {σ : Sig} (hK : KK σ) (hB : BM σ) : Prims σ where
  keep := fun T hG V hT htb hR S hn hi hg hl hρ hk hw H => p_keep hK hB T hG V hT htb hR S hn hi hg hl hρ hk hw H
  mkV := fun S hR hv hw H => p_mkV hK S hR hv hw H
  setA := fun S ha U hw H => p_setA hK S ha U hw H
  raise := fun hR h => p_raise (by rw [hK]; exact excC_of _) hR h
  mkE := fun S hR H => p_mkE hK S hR H
  named := fun S hR hr ha hd hw hl H => p_named hK S hR hr ha hd hw hl H
  leave := fun hr hf hk hR H => p_leave hr hf hk hR H
end Mine

end
section
open PySem PySem.W PySem.Calls PyProof.Rows PySem.Spec
set_option Elab.async false
set_option maxRecDepth 100000
set_option linter.unusedVariables false
namespace Mine
theorem wd_ok {σ : Sig} (hK : KK σ) (hB : BM σ) : Wd σ where
  kk := hK
  pm := prims_ok hK hB
  ev := fun n => (ok_all (kok hK) n).1
  tv := fun n => (ok_all (kok hK) n).2
  nul := fun h => w_nul hK h
  mis := fun h => w_mis hK h
  nxt := fun h => w_nxt hK h
  red := fun h0 h4 h => w_red hK h0 h4 h
  vec := fun h => w_vec hK h
end Mine

end
section
open PySem PySem.W PySem.Calls PyProof.Rows PySem.Spec
set_option Elab.async false
set_option maxRecDepth 100000
set_option maxHeartbeats 8000000
set_option linter.unusedVariables false
namespace Mine
noncomputable abbrev cxL (sc : Scope) : Cx := { cxOf G0 sc.names ["attrs"] with tb := true }
structure LawIs (body : List Stmt) (sc : Scope) : Prop where
  ex : ∃ (p1 p2 p3 p4 p5 : Pos) (rest : List Stmt), body = .Assign [.Name "row" p1] (.Call (.Name "_law_row" p2) [.Name "script" p3] [] p4) p5 :: rest ∧ compSs 60 (cxL sc) rest = irL
  D : defOk ["script"] sc = true
  len : sc.names.length = 32
  n0 : sc.names[0]? = some (Str.ofString "script", NameKind.local)
  n1 : sc.names[1]? = some (Str.ofString "row", NameKind.local)
  lr : sc.names.lookup (Str.ofString "_law_row") = some .globalImplicit
  v0 : isVar (cxL sc) (Str.ofString "script") = some 0
  v1 : isVar (cxL sc) (Str.ofString "row") = some 1
theorem pair_of {M : Mut} {k : PySem.Str → Option NameKind} {b : List (PySem.Str × Value)} {cs : List (PySem.Str × Addr)} (h : ((cellsM k b cs ++ M).map (·.1)).Nodup) : cs.Pairwise (fun x y => x.2 ≠ y.2) ∧ ∀ p ∈ cs, p.2 ∉ M.map (·.1) := by
  rw [List.map_append, List.nodup_append] at h
  have e : (cellsM k b cs).map (·.1) = cs.map (·.2) := by unfold cellsM; rw [List.map_map]; rfl
  rw [e] at h
  exact ⟨List.pairwise_map.mp h.1, fun p hp hm => h.2.2 _ (List.mem_map.mpr ⟨p, hp, rfl⟩) _ hm rfl⟩
section
variable {σ : Sig} {A : Around} {E : Value → Shared → Prop} {L : Addr} {X : Led} {s : Shared}
theorem law_run (hK : KK σ) (hB : BM σ) {body : List Stmt} {sc : Scope} (I : LawIs body sc) {env : Env} {cs : List (PySem.Str × Addr)} (V : EnvIs env L sc.names cs) (hcs : cs = cellsFrom (L + 1) sc.names []) (hcode : env.code = .ref 507) (hqual : env.qual ++ "<lambda>" = lamQual) (hR : Rm A 10 [L])
    {ns : List Int} {lvs : List Value} {la : Addr} (hns : ns.length ≤ 100) (hli : σ.W₀.IsList la lvs.toArray) (hin : IntsAre lvs ns) (S : St σ L (knowL sc.names [(Str.ofString "script", Value.ref la)]) [] (cellsM (fun x => sc.names.lookup x) [(Str.ofString "script", Value.ref la)] cs ++ [(505, fun o => o = tabObj #[])]) X s)
    {Q : Flow → Shared → Prop} (H : ∀ s' m M X, St σ L m [] M X s' → GrownAt 505 s'.heap → Q (.ret (.bool true)) s') : wpAny σ.M A (execs body env) Q E s := by
  obtain ⟨p1, p2, p3, p4, p5, rest, rfl, hrest⟩ := I.ex
  have D := defOk_says I.D
  have hcn : (cs.map (·.1)).Nodup := by rw [hcs]; exact cells_nodup _ _ _ D.nd List.nodup_nil fun _ h => nomatch h
  obtain ⟨hap, hcM⟩ := pair_of S.mnd
  have E0 := entry0 (r := none) (G := G0) (own := ["attrs"]) D hcs hcM (fun _ h => nomatch h) S
  have T0 := cxs_of (G := G0) (own := ["attrs"]) D hcs hcn hap
  have T : CxS (cxL sc) cs := ⟨T0.iinj, T0.nofree, T0.cinj, T0.cl⟩
  have hG0 : GOK σ (cxOf G0 sc.names ["attrs"]) := gok_of (glob_ok hK)
  have hG : GOK σ (cxL sc) := ⟨hG0.fn, hG0.bi, hG0.wf⟩
  obtain ⟨ev, tv⟩ := ok_all (kok hK) 60
  have n0 : (Str.ofString "script", NameKind.local) ∈ sc.names := List.mem_of_getElem? I.n0
  have n1 : (Str.ofString "row", NameKind.local) ∈ sc.names := List.mem_of_getElem? I.n1
  have k0 : (Str.ofString "script", some (some (Value.ref la))) ∈ knowL sc.names ([(Str.ofString "script", Value.ref la)]) := knowL_has (binds := [(Str.ofString "script", Value.ref la)]) n0
  have lr : (Str.ofString "_law_row", NameKind.globalImplicit) ∈ sc.names := mem_of_lookup I.lr
  have gl : G0 (Str.ofString "_law_row") = .fn 434 := by kernel_rfl
  obtain ⟨g3, g4⟩ := (glob_ok hK).fn _ _ gl
  refine x_assign (r_callD S V lr g3 g4 (r_items (r_local S V n0 k0 (r_spl0 ⟨S.live, ?_⟩)))) rfl
  refine t_row hK (prims_ok hK hB) S (hR.low (by omega)) hns hli hin fun a X1 s1 hX1 S1 => ?_
  obtain ⟨m2, U⟩ := Put.ex (v := Value.ref a) (E0.loc _ n1)
  refine r_store S1 V n1 U fun s2 S2 => ?_
  have ha := (List.nodup_cons.mp S2.mnd).1
  have hne : (505 : Addr) ≠ a := fun e => ha (List.mem_map.mpr ⟨_, List.mem_append_right _ (.head _), e⟩)
  have S3 : RelS σ (some a) (cxL sc) cs (.tab :: .v .row :: List.replicate 30 .u) [(0, 505)] L m2 [] ((a, RowO) :: (cellsM (fun x => sc.names.lookup x) ([(Str.ofString "script", Value.ref la)]) cs ++ [(505, fun o => o = tabObj #[])])) [(a, RowO)] X1 s2 := by
    refine ⟨S2, fun b hb => by cases hb; exact .head _, fun x i b h1 h2 h3 => ?_, ?_, fun p hp => by rw [List.mem_singleton.mp hp]; exact .head _, fun x hx => by rw [U.names]; exact E0.loc x hx, fun x c hx hc => ?_, by simp, fun q hq => ?_⟩
    · match i, h2 with
      | 0, h2 =>
        simp at h2; subst h2
        have e := T.iinj _ _ _ h1 I.v0
        subst e
        exact ⟨.ref la, .inl ⟨n0, U.old (by decide) k0⟩, .head _, #[], .tail _ (List.mem_append_right _ (.head _)), trivial, fun pos cv h => nomatch h⟩
      | 1, h2 =>
        simp at h2; subst h2
        have e := T.iinj _ _ _ h1 I.v1
        subst e
        exact ⟨.ref a, .inl ⟨n1, U.new⟩, ⟨a, rfl, rfl⟩⟩
      | i + 2, h2 =>
        simp only [List.getElem?_cons_succ, List.getElem?_replicate] at h2
        split at h2
        · cases h2; exact absurd rfl h3
        · cases h2
    · rw [show (cxL sc).d = sc.names.length from rfl, I.len]; rfl
    · obtain ⟨⟨w, hw⟩, _⟩ := E0.cel x c hx hc
      refine ⟨⟨w, .tail _ hw⟩, fun hm => ?_⟩
      have e : c = a := by simpa using hm
      exact ha (by rw [← e]; exact List.mem_map.mpr ⟨_, hw, rfl⟩)
    · rw [List.mem_singleton.mp hq]
      exact ⟨by simpa using hne, _, .tail _ (List.mem_append_right _ (.head _)), noCell_tab⟩
  have W := wd_ok hK hB
  have hT : EnvT (cxL sc) env := fun _ => ⟨hcode, hqual, _, I.v0⟩
  refine sv_ok (kok hK) W.pm W.ev W.tv 60 (k := 10) (Fs := []) (R := fun _ => False) T hG V hT hR S3 (by simp) (by rw [hrest]; exact law_main (k := 0) W (P := fun fl ρ' => fl = .ret (.bool true) ∧ ρ'[0]? = some .tab) fun ρ' h => ⟨rfl, h⟩) (fun fl fl' ρ' O' m' M' X' s' hX S' hm hq => ?_) fun v msg m' s' X' _ _ hm => hm.elim
  obtain ⟨rfl, h0⟩ := hq
  cases hm with
  | ret hr =>
    obtain rfl := rep_bool hr
    refine H s' _ _ _ S'.st ?_
    obtain ⟨_, _, _, ps, hM, _⟩ := S'.val _ 0 .tab I.v0 h0 (by simp)
    obtain ⟨o, ho, rfl⟩ := S'.st.own _ hM
    exact ⟨ps, ho⟩
end
end Mine

end
section
open PySem PySem.W PySem.Calls PyProof.Rows PySem.Spec
set_option Elab.async false
set_option maxRecDepth 100000
set_option maxHeartbeats 8000000
set_option linter.unusedVariables false
namespace Mine
theorem cellsAre_mem {cm : PySem.Str → Option Value} : ∀ {cs : List (PySem.Str × Addr)} {cells : List (Addr × Obj)}, CellsAre cm cs cells → ∀ q ∈ cs, ∃ o, (q.2, o) ∈ cells ∧ o.data = .cell (cm q.1)
  | _, _, .nil, _, h => nomatch h
  | _, _, .cons hd r, q, h => by
    rcases List.mem_cons.mp h with rfl | h
    · exact ⟨_, .head _, hd⟩
    · obtain ⟨o, h1, h2⟩ := cellsAre_mem r q h
      exact ⟨o, .tail _ h1, h2⟩
theorem nd7 (L : Nat) (h : 505 < L) : (L :: ([] ++ ([L + 1 + 1 + 1 + 1 + 1 + 1, L + 1 + 1 + 1 + 1 + 1, L + 1 + 1 + 1 + 1, L + 1 + 1 + 1, L + 1 + 1, L + 1] ++ [505]))).Nodup := by
  simp; omega
theorem mem7 (a L : Nat) (h : a ∈ [L + 1 + 1 + 1 + 1 + 1 + 1, L + 1 + 1 + 1 + 1 + 1, L + 1 + 1 + 1 + 1, L + 1 + 1 + 1, L + 1 + 1, L + 1]) : L ≤ a := by
  simp at h; omega
theorem law_go {w : World} {prog : Program} {p : Program} {loose : List PySem.Str} {mean : ExcName → Option Value} {mg mb : PySem.Str → Option Value} {G : Heap} {L : Nat} {fa : Addr} {cells news : List (Addr × Obj)} {s : Shared} {la : Addr} {lvs : List Value} {ns : List Int} {body : List Stmt} {sc : Scope} {name : PySem.Str} {binds : List (PySem.Str × Value)}
    {Q : Flow → Shared → Prop} {E : Value → Shared → Prop} (I : LawIs body sc) (X' : (frag w.params).In G) (T' : Top p loose mean mg mb G)
    (F' : Fr G L s.heap (bindL (envOfC name sc L fa (.ref 507)).kindOf binds fun _ => none)) (X0 : CellsAre (bindC (envOfC name sc L fa (.ref 507)).kindOf binds fun _ => none) (cellsFrom (L + 1) sc.names []) cells)
    (N' : News G L s.heap news) (hnews : news = cells ++ [(505, tabObj #[])])
    (hname : name ++ ".<locals>." ++ "<lambda>" = lamQual) (hb : binds = [(Str.ofString "script", .ref la)])
    (hca : (cellsFrom (L + 1) sc.names []).map (·.2) = [L + 1 + 1 + 1 + 1 + 1 + 1, L + 1 + 1 + 1 + 1 + 1, L + 1 + 1 + 1 + 1, L + 1 + 1 + 1, L + 1 + 1, L + 1])
    (l0 : 505 < L) (hl : G.IsList la lvs.toArray) (hi : IntsAre lvs ns) (hn : ns.length ≤ 63)
    (H : ∀ s', (∀ b o, G.get? b = some o → s'.heap.get? b = some o) → s'.gens = s.gens → s'.os = s.os → GrownAt 505 s'.heap → Q (.ret (.bool true)) s') :
    wpAny (model prog w) (callerA.deeper (envOfC name sc L fa (.ref 507))) (execs body (envOfC name sc L fa (.ref 507))) Q E s := by
  subst hb hnews
  have D := defOk_says I.D
  let σ : Sig := { prog := prog, w := w, K := frag w.params, W₀ := G, gens := s.gens, drawn := s.drawn, os := s.os, mg := mg, mb := mb }
  have hK : KK σ := rfl
  have hB : BM σ := T'.bmain
  have V : EnvIs (envOfC name sc L fa (.ref 507)) L sc.names (cellsFrom (L + 1) sc.names []) := ⟨rfl, D.kind, rfl, rfl, rfl, lookNames.says D.look, oddNames.says D.odd⟩
  have hR : Rm (callerA.deeper (envOfC name sc L fa (.ref 507))) 10 [L] := by
    refine ⟨rfl, (show 1 + claimMargin + 1 + 10 < recursionLimit by decide), (show 4 + 3 + 16 * 10 + 64 < cLine by decide), [envOfC name sc L fa (.ref 507)], rfl, fun env h => ?_⟩
    rw [List.mem_singleton.mp h]
    exact ⟨D.kind, L, rfl, .head _⟩
  have hcm : (cellsM (fun x => sc.names.lookup x) [(Str.ofString "script", Value.ref la)] (cellsFrom (L + 1) sc.names [])).map (·.1) = [L + 1 + 1 + 1 + 1 + 1 + 1, L + 1 + 1 + 1 + 1 + 1, L + 1 + 1 + 1 + 1, L + 1 + 1 + 1, L + 1 + 1, L + 1] := by
    unfold cellsM; rw [List.map_map]; exact hca
  have hge : ∀ a, L ≤ a → G.get? a = none := fun a ha => Heap.get?_none_of_le (Nat.le_trans F'.above ha)
  have S : St σ L (knowL sc.names [(Str.ofString "script", Value.ref la)]) [] (cellsM (fun x => sc.names.lookup x) [(Str.ofString "script", Value.ref la)] (cellsFrom (L + 1) sc.names []) ++ [(505, fun o => o = tabObj #[])]) [] s := by
    refine ⟨⟨X', T'.g, T'.b, T'.nolimit, T'.builtins⟩, rfl, rfl, rfl, F'.keep, ⟨?_, _, F'.ns, fun p hp o ho => ?_⟩, (fun _ h => nomatch h), fun p hp => ?_, (fun _ h => nomatch h), ?_, fun a ha => ⟨?_, (fun _ h => nomatch h)⟩⟩
    · rw [knowL_names]
      exact (List.Sublist.map _ List.filter_sublist).nodup D.nd
    · obtain ⟨h1, h2⟩ := knowL_mem hp
      rw [h2] at ho
      obtain ⟨v, hv, rfl⟩ := Option.map_eq_some_iff.mp ho
      exact bindL_new (lookNames.says D.look _ h1) _ _ (by simp) (mem_of_lookup hv)
    · rcases List.mem_append.mp hp with hp | hp
      · obtain ⟨q, hq, rfl⟩ := List.mem_map.mp hp
        obtain ⟨o, h1, h2⟩ := cellsAre_mem X0 q hq
        exact ⟨o, (N' _ (List.mem_append_left _ h1)).1, h2⟩
      · rw [List.mem_singleton.mp hp]
        exact ⟨_, (N' _ (List.mem_append_right _ (.head _))).1, rfl⟩
    · rw [List.map_append, hcm]
      exact nd7 L l0
    · rw [List.map_append, hcm] at ha
      rcases List.mem_cons.mp ha with rfl | ha
      · exact hge _ (Nat.le_refl _)
      · simp only [List.map_nil, List.nil_append, List.mem_append] at ha
        rcases ha with ha | ha
        · exact hge _ (mem7 a L ha)
        · have ha : a = 505 := by simpa using ha
          subst ha
          exact (N' _ (List.mem_append_right _ (.head _))).2.2
  exact law_run (σ := σ) hK hB I V rfl rfl hname hR (Nat.le_trans hn (by decide)) hl hi S fun s' m M X S' hg => H s' S'.W S'.gens S'.os hg
end Mine

end
open PySem PySem.W PySem.Calls PyProof.Rows PySem.Spec
set_option Elab.async false
set_option maxRecDepth 100000
set_option maxHeartbeats 8000000
theorem PySem.Challenge.cw_pq1441_01_holds : PySem.Challenge.rw_pq1441_01.Holds := by
  exact Mine.top (by
  w_strict (k_go0; (all_goals try k_fold); refine Mine.law_go ⟨⟨_, _, _, _, _, _, rfl, by kernel_rfl⟩, by kernel_rfl, by kernel_rfl, by kernel_rfl, by kernel_rfl, by kernel_rfl, by kernel_rfl, by kernel_rfl⟩ (by assumption) (by assumption) (by assumption) (by assumption) (by assumption) rfl (by kernel_rfl) (by kernel_rfl) (by rfl) (by assumption) lifted (by assumption) (by omega) ?_; intro s' hk hg ho hG; refine ⟨⟨.inl ⟨_, .bool true, [], rfl, raisesW_false ?_, .bool true, ?_, unshared_nil⟩, hk, ho, hg.trans (by assumption)⟩, hG, trivial⟩; (· wrow_none_raised); (· first | kc_post | wrow_post)))
