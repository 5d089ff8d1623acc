import PyProof.Rows.All
import Wide.All
import OpenK.AllK
import Wide.FinOn
import Lean
import PySem.Challenge.RW_xw0248_01
open PySem PySem.W PyProof.Rows
set_option Elab.async false
set_option rowWalk.seconds 0
namespace Mine
theorem pz : Str.ofString "a" = Str.mk #[97] := by decide +kernel
set_option maxRecDepth 100000
set_option maxHeartbeats 8000000
noncomputable def K : Params → Frag := by
  refine (?f : (PySem.Challenge.pw_xw0248_01.main.body[0]? = some (.FunctionDef ?n21 ?a21 ?b21 ?d21 ?r21 ?t21 ?c21 ?u21 ?v21 ?p21)) → (PySem.Challenge.pw_xw0248_01.main.body[5]? = some (.FunctionDef ?n56 ?a56 ?b56 ?d56 ?r56 ?t56 ?c56 ?u56 ?v56 ?p56)) → (PySem.Challenge.pw_xw0248_01.main.body[6]? = some (.FunctionDef ?n61 ?a61 ?b61 ?d61 ?r61 ?t61 ?c61 ?u61 ?v61 ?p61)) → (PySem.Challenge.pw_xw0248_01.main.body[7]? = some (.FunctionDef ?n68 ?a68 ?b68 ?d68 ?r68 ?t68 ?c68 ?u68 ?v68 ?p68)) → (PySem.Challenge.pw_xw0248_01.main.body[8]? = some (.FunctionDef ?n73 ?a73 ?b73 ?d73 ?r73 ?t73 ?c73 ?u73 ?v73 ?p73)) → (PySem.Challenge.pw_xw0248_01.main.body[9]? = some (.FunctionDef ?n80 ?a80 ?b80 ?d80 ?r80 ?t80 ?c80 ?u80 ?v80 ?p80)) → (PySem.Challenge.pw_xw0248_01.main.body[18]? = some (.FunctionDef ?n89 ?a89 ?b89 ?d89 ?r89 ?t89 ?c89 ?u89 ?v89 ?p89)) → (PySem.Challenge.pw_xw0248_01.main.body[19]? = some (.FunctionDef ?n94 ?a94 ?b94 ?d94 ?r94 ?t94 ?c94 ?u94 ?v94 ?p94)) → (PySem.Challenge.pw_xw0248_01.main.body[20]? = some (.FunctionDef ?n101 ?a101 ?b101 ?d101 ?r101 ?t101 ?c101 ?u101 ?v101 ?p101)) → (PySem.Challenge.pw_xw0248_01.main.body[21]? = some (.FunctionDef ?n108 ?a108 ?b108 ?d108 ?r108 ?t108 ?c108 ?u108 ?v108 ?p108)) → (PySem.Challenge.pw_xw0248_01.main.body[22]? = some (.FunctionDef ?n115 ?a115 ?b115 ?d115 ?r115 ?t115 ?c115 ?u115 ?v115 ?p115)) → (PySem.Challenge.pw_xw0248_01.main.body[23]? = some (.FunctionDef ?n120 ?a120 ?b120 ?d120 ?r120 ?t120 ?c120 ?u120 ?v120 ?p120)) → (PySem.Challenge.pw_xw0248_01.main.body[24]? = some (.FunctionDef ?n125 ?a125 ?b125 ?d125 ?r125 ?t125 ?c125 ?u125 ?v125 ?p125)) → (PySem.Challenge.pw_xw0248_01.main.body[27]? = some (.FunctionDef ?n170 ?a170 ?b170 ?d170 ?r170 ?t170 ?c170 ?u170 ?v170 ?p170)) → (PySem.Challenge.pw_xw0248_01.main.body[29]? = some (.FunctionDef ?n175 ?a175 ?b175 ?d175 ?r175 ?t175 ?c175 ?u175 ?v175 ?p175)) → (PySem.Challenge.pw_xw0248_01.main.body[30]? = some (.FunctionDef ?n182 ?a182 ?b182 ?d182 ?r182 ?t182 ?c182 ?u182 ?v182 ?p182)) → (PySem.Challenge.pw_xw0248_01.main.body[31]? = some (.FunctionDef ?n187 ?a187 ?b187 ?d187 ?r187 ?t187 ?c187 ?u187 ?v187 ?p187)) → (PySem.Challenge.pw_xw0248_01.main.body[4]? = some (.ClassDef ?nm4 ?ba4 ?ke4 [.FunctionDef ?n35 ?a35 ?b35 ?d35 ?r35 ?t35 ?c35 ?u35 ?v35 ?p35, .FunctionDef ?n42 ?a42 ?b42 ?d42 ?r42 ?t42 ?c42 ?u42 ?v42 ?p42] ?de4 ?ty4 ?sc4 ?ts4 ?bi4 ?sa4 ?po4)) → (PySem.Challenge.pw_xw0248_01.main.body[26]? = some (.ClassDef ?nm26 ?ba26 ?ke26 [.FunctionDef ?n139 ?a139 ?b139 ?d139 ?r139 ?t139 ?c139 ?u139 ?v139 ?p139, .FunctionDef ?n144 ?a144 ?b144 ?d144 ?r144 ?t144 ?c144 ?u144 ?v144 ?p144, .FunctionDef ?n151 ?a151 ?b151 ?d151 ?r151 ?t151 ?c151 ?u151 ?v151 ?p151, .FunctionDef ?n158 ?a158 ?b158 ?d158 ?r158 ?t158 ?c158 ?u158 ?v158 ?p158] ?de26 ?ty26 ?sc26 ?ts26 ?bi26 ?sa26 ?po26)) → (PySem.Challenge.pw_xw0248_01.main.body[11]? = some (.Assign ?ta11 (.Constant (.str ?tx11) ?k11 ?q11) ?w11)) → (PySem.Challenge.pw_xw0248_01.main.body[12]? = some (.Assign ?ta12 (.Constant (.str ?tx12) ?k12 ?q12) ?w12)) → (PySem.Challenge.pw_xw0248_01.main.body[13]? = some (.Assign ?ta13 (.Constant (.str ?tx13) ?k13 ?q13) ?w13)) → (PySem.Challenge.pw_xw0248_01.main.body[14]? = some (.Assign ?ta14 (.Constant (.str ?tx14) ?k14 ?q14) ?w14)) → (PySem.Challenge.pw_xw0248_01.main.body[15]? = some (.Assign ?tz15 (.Dict (some (.Constant (.str ?x0) ?xa0 ?xb0) :: some (.Constant (.str ?x1) ?xa1 ?xb1) :: some (.Constant (.str ?x2) ?xa2 ?xb2) :: some (.Constant (.str ?x3) ?xa3 ?xb3) :: some (.Constant (.str ?x4) ?xa4 ?xb4) :: some (.Constant (.str ?x5) ?xa5 ?xb5) :: some (.Constant (.str ?x6) ?xa6 ?xb6) :: some (.Constant (.str ?x7) ?xa7 ?xb7) :: some (.Constant (.str ?x8) ?xa8 ?xb8) :: some (.Constant (.str ?x9) ?xa9 ?xb9) :: some (.Constant (.str ?x10) ?xa10 ?xb10) :: some (.Constant (.str ?x11) ?xa11 ?xb11) :: some (.Constant (.str ?x12) ?xa12 ?xb12) :: some (.Constant (.str ?x13) ?xa13 ?xb13) :: some (.Constant (.str ?x14) ?xa14 ?xb14) :: some (.Constant (.str ?x15) ?xa15 ?xb15) :: some (.Constant (.str ?x16) ?xa16 ?xb16) :: some (.Constant (.str ?x17) ?xa17 ?xb17) :: some (.Constant (.str ?x18) ?xa18 ?xb18) :: some (.Constant (.str ?x19) ?xa19 ?xb19) :: some (.Constant (.str ?x20) ?xa20 ?xb20) :: some (.Constant (.str ?x21) ?xa21 ?xb21) :: some (.Constant (.str ?x22) ?xa22 ?xb22) :: some (.Constant (.str ?x23) ?xa23 ?xb23) :: some (.Constant (.str ?x24) ?xa24 ?xb24) :: some (.Constant (.str ?x25) ?xa25 ?xb25) :: some (.Constant (.str ?x26) ?xa26 ?xb26) :: some (.Constant (.str ?x27) ?xa27 ?xb27) :: some (.Constant (.str ?x28) ?xa28 ?xb28) :: some (.Constant (.str ?x29) ?xa29 ?xb29) :: some (.Constant (.str ?x30) ?xa30 ?xb30) :: some (.Constant (.str ?x31) ?xa31 ?xb31) :: some (.Constant (.str ?x32) ?xa32 ?xb32) :: some (.Constant (.str ?x33) ?xa33 ?xb33) :: some (.Constant (.str ?x34) ?xa34 ?xb34) :: some (.Constant (.str ?x35) ?xa35 ?xb35) :: some (.Constant (.str ?x36) ?xa36 ?xb36) :: some (.Constant (.str ?x37) ?xa37 ?xb37) :: some (.Constant (.str ?x38) ?xa38 ?xb38) :: []) (.Constant (.int ?y0) ?ya0 ?yb0 :: .Constant (.int ?y1) ?ya1 ?yb1 :: .Constant (.int ?y2) ?ya2 ?yb2 :: .Constant (.int ?y3) ?ya3 ?yb3 :: .Constant (.int ?y4) ?ya4 ?yb4 :: .Constant (.int ?y5) ?ya5 ?yb5 :: .Constant (.int ?y6) ?ya6 ?yb6 :: .Constant (.int ?y7) ?ya7 ?yb7 :: .Constant (.int ?y8) ?ya8 ?yb8 :: .Constant (.int ?y9) ?ya9 ?yb9 :: .Constant (.int ?y10) ?ya10 ?yb10 :: .Constant (.int ?y11) ?ya11 ?yb11 :: .Constant (.int ?y12) ?ya12 ?yb12 :: .Constant (.int ?y13) ?ya13 ?yb13 :: .Constant (.int ?y14) ?ya14 ?yb14 :: .Constant (.int ?y15) ?ya15 ?yb15 :: .Constant (.int ?y16) ?ya16 ?yb16 :: .Constant (.int ?y17) ?ya17 ?yb17 :: .Constant (.int ?y18) ?ya18 ?yb18 :: .Constant (.int ?y19) ?ya19 ?yb19 :: .Constant (.int ?y20) ?ya20 ?yb20 :: .Constant (.int ?y21) ?ya21 ?yb21 :: .Constant (.int ?y22) ?ya22 ?yb22 :: .Constant (.int ?y23) ?ya23 ?yb23 :: .Constant (.int ?y24) ?ya24 ?yb24 :: .Constant (.int ?y25) ?ya25 ?yb25 :: .Constant (.int ?y26) ?ya26 ?yb26 :: .Constant (.int ?y27) ?ya27 ?yb27 :: .Constant (.int ?y28) ?ya28 ?yb28 :: .Constant (.int ?y29) ?ya29 ?yb29 :: .Constant (.int ?y30) ?ya30 ?yb30 :: .Constant (.int ?y31) ?ya31 ?yb31 :: .Constant (.int ?y32) ?ya32 ?yb32 :: .Constant (.int ?y33) ?ya33 ?yb33 :: .Constant (.int ?y34) ?ya34 ?yb34 :: .Constant (.int ?y35) ?ya35 ?yb35 :: .Constant (.int ?y36) ?ya36 ?yb36 :: .Constant (.int ?y37) ?ya37 ?yb37 :: .Constant (.int ?y38) ?ya38 ?yb38 :: []) ?q15) ?w15)) → (Params → Frag)) ?h0 ?h1 ?h2 ?h3 ?h4 ?h5 ?h6 ?h7 ?h8 ?h9 ?h10 ?h11 ?h12 ?h13 ?h14 ?h15 ?h16 ?h17 ?h18 ?h19 ?h20 ?h21 ?h22 ?h23
  case h0 => exact rfl
  case h1 => exact rfl
  case h2 => exact rfl
  case h3 => exact rfl
  case h4 => exact rfl
  case h5 => exact rfl
  case h6 => exact rfl
  case h7 => exact rfl
  case h8 => exact rfl
  case h9 => exact rfl
  case h10 => exact rfl
  case h11 => exact rfl
  case h12 => exact rfl
  case h13 => exact rfl
  case h14 => exact rfl
  case h15 => exact rfl
  case h16 => exact rfl
  case h17 => exact rfl
  case h18 => exact rfl
  case h19 => exact rfl
  case h20 => exact rfl
  case h21 => exact rfl
  case h22 => exact rfl
  case h23 => exact rfl
  case f => exact fun _ _ _ _ _ _ _ _ _ _ _ _ _ _ _ _ _ _ _ _ _ _ _ _ => fun P => (fun (_ : Str.ofString "a" = Str.mk #[97]) => (((nat_lit 2, Obj.mk Value.none none (Data.dict #[]) #[]) ::
    (nat_lit 3, Obj.mk (Value.type "dict") none (Data.dict (List.toArray (DictEntry.mk (PyData.keyHash P (Str.ofString "__name__")) (Value.str (Str.ofString "__name__") 165) (Value.str (Str.ofString "law_xw0248_01") 537) :: DictEntry.mk (PyData.keyHash P (Str.ofString "__doc__")) (Value.str (Str.ofString "__doc__") 166) Value.none :: DictEntry.mk (PyData.keyHash P (Str.ofString "__package__")) (Value.str (Str.ofString "__package__") 167) Value.none :: DictEntry.mk (PyData.keyHash P (Str.ofString "__loader__")) (Value.str (Str.ofString "__loader__") 168) (Value.builtin "__main__.__loader__#\x6fpaque") :: DictEntry.mk (PyData.keyHash P (Str.ofString "__spec__")) (Value.str (Str.ofString "__spec__") 169) Value.none :: DictEntry.mk (PyData.keyHash P (Str.ofString "__annotations__")) (Value.str (Str.ofString "__annotations__") 170) (Value.ref 6) :: DictEntry.mk (PyData.keyHash P (Str.ofString "__builtins__")) (Value.str (Str.ofString "__builtins__") 171) (Value.ref 4) :: DictEntry.mk (PyData.keyHash P (Str.ofString "__file__")) (Value.str (Str.ofString "__file__") 173) (Value.str (Str.ofString "/claim/cut.py") 172) :: DictEntry.mk (PyData.keyHash P (Str.ofString "__cached__")) (Value.str (Str.ofString "__cached__") 174) Value.none :: DictEntry.mk (PyData.keyHash P (Str.ofString "_wall")) (Value.str (Str.ofString "_wall") 193) (Value.ref 21) :: DictEntry.mk (PyData.keyHash P (Str.ofString "MOST_LENGTH")) (Value.str (Str.ofString "MOST_LENGTH") 197) (Value.int 4 196) :: DictEntry.mk (PyData.keyHash P (Str.ofString "HEX_SIGNS")) (Value.str (Str.ofString "HEX_SIGNS") 199) (Value.str (Str.ofString "0123456789ABCDEF") 198) :: DictEntry.mk (PyData.keyHash P (Str.ofString "CMap")) (Value.str (Str.ofString "CMap") 237) (Value.ref 45) :: DictEntry.mk (PyData.keyHash P (Str.ofString "code_of")) (Value.str (Str.ofString "code_of") 246) (Value.ref 56) :: DictEntry.mk (PyData.keyHash P (Str.ofString "code_octets")) (Value.str (Str.ofString "code_octets") 252) (Value.ref 61) :: DictEntry.mk (PyData.keyHash P (Str.ofString "fitting")) (Value.str (Str.ofString "fitting") 266) (Value.ref 68) :: DictEntry.mk (PyData.keyHash P (Str.ofString "next_length")) (Value.str (Str.ofString "next_length") 272) (Value.ref 73) :: DictEntry.mk (PyData.keyHash P (Str.ofString "split_codes")) (Value.str (Str.ofString "split_codes") 284) (Value.ref 80) :: DictEntry.mk (PyData.keyHash P (Str.ofString "LOW_NAMES")) (Value.str (Str.ofString "LOW_NAMES") 288) (Value.str ?tx11 287) :: DictEntry.mk (PyData.keyHash P (Str.ofString "MIDDLE_NAMES")) (Value.str (Str.ofString "MIDDLE_NAMES") 290) (Value.str ?tx12 289) :: DictEntry.mk (PyData.keyHash P (Str.ofString "HIGH_NAMES")) (Value.str (Str.ofString "HIGH_NAMES") 292) (Value.str ?tx13 291) :: DictEntry.mk (PyData.keyHash P (Str.ofString "LATIN_NAMES")) (Value.str (Str.ofString "LATIN_NAMES") 294) (Value.str ?tx14 293) :: DictEntry.mk (PyData.keyHash P (Str.ofString "OTHER_CODES")) (Value.str (Str.ofString "OTHER_CODES") 412) (Value.ref 81) :: DictEntry.mk (PyData.keyHash P (Str.ofString "SURROGATES")) (Value.str (Str.ofString "SURROGATES") 415) (Value.ref 84) :: DictEntry.mk (PyData.keyHash P (Str.ofString "MOST_CODE")) (Value.str (Str.ofString "MOST_CODE") 417) (Value.int 1114111 416) :: DictEntry.mk (PyData.keyHash P (Str.ofString "ascii_names")) (Value.str (Str.ofString "ascii_names") 423) (Value.ref 89) :: DictEntry.mk (PyData.keyHash P (Str.ofString "latin_names")) (Value.str (Str.ofString "latin_names") 429) (Value.ref 94) :: DictEntry.mk (PyData.keyHash P (Str.ofString "hex_number")) (Value.str (Str.ofString "hex_number") 438) (Value.ref 101) :: DictEntry.mk (PyData.keyHash P (Str.ofString "is_sign_code")) (Value.str (Str.ofString "is_sign_code") 445) (Value.ref 108) :: DictEntry.mk (PyData.keyHash P (Str.ofString "known_code")) (Value.str (Str.ofString "known_code") 453) (Value.ref 115) :: DictEntry.mk (PyData.keyHash P (Str.ofString "part_text")) (Value.str (Str.ofString "part_text") 459) (Value.ref 120) :: DictEntry.mk (PyData.keyHash P (Str.ofString "glyph_text")) (Value.str (Str.ofString "glyph_text") 465) (Value.ref 125) :: DictEntry.mk (PyData.keyHash P (Str.ofString "Font")) (Value.str (Str.ofString "Font") 530) (Value.ref 161) :: DictEntry.mk (PyData.keyHash P (Str.ofString "string_text")) (Value.str (Str.ofString "string_text") 536) (Value.ref 170) :: DictEntry.mk (PyData.keyHash P (Str.ofString "_law_pot")) (Value.str (Str.ofString "_law_pot") 544) (Value.ref 175) :: DictEntry.mk (PyData.keyHash P (Str.ofString "_law_draw")) (Value.str (Str.ofString "_law_draw") 555) (Value.ref 182) :: DictEntry.mk (PyData.keyHash P (Str.ofString "law")) (Value.str (Str.ofString "law") 561) (Value.ref 187) :: [])) 37) #[]) ::
    (nat_lit 15, Obj.mk (Value.type "tuple") none (Data.seq #[]) #[]) ::
    (nat_lit 17, Obj.mk (Value.type "tuple") none (Data.seq #[Value.str (Str.ofString "k") 190]) #[]) ::
    (nat_lit 18, Obj.mk (Value.type "tuple") none (Data.seq #[]) #[]) ::
    (nat_lit 20, Obj.mk (Value.type "code") none (Data.fields #[Value.str (Str.ofString "_wall") 187, Value.str (Str.ofString "_wall") 188, Value.str (Str.ofString "/claim/cut.py") 189, Value.int 1 0, Value.int 1 0, Value.int 0 0, Value.int 0 0, Value.int 3 0, Value.ref 15, Value.bool true, Value.int 181 0, Value.ref 16, Value.none, Value.ref 17, Value.ref 18, Value.ref 19, Value.int 191 0, Value.int 1 0, Value.str (Str.ofString "/claim/cut.py") 192]) #[]) ::
    (nat_lit 21, Obj.mk (Value.type "function") none (Data.func (FuncData.mk (Str.ofString "_wall") (Str.ofString "_wall") ?a21 (FuncBody.stmts ?b21) ?c21 3 [] Value.none Value.none Value.none (Value.str (Str.ofString "__main__") 164) none (Value.ref 20) Value.none 0)) #[]) ::
    (nat_lit 29, Obj.mk (Value.type "tuple") none (Data.seq #[]) #[]) ::
    (nat_lit 31, Obj.mk (Value.type "tuple") none (Data.seq #[Value.str (Str.ofString "self") 215, Value.str (Str.ofString "spaces") 216, Value.str (Str.ofString "chars") 217]) #[]) ::
    (nat_lit 32, Obj.mk (Value.type "tuple") none (Data.seq #[]) #[]) ::
    (nat_lit 34, Obj.mk (Value.type "code") none (Data.fields #[Value.str (Str.ofString "__init__") 212, Value.str (Str.ofString "CMap.__init__") 213, Value.str (Str.ofString "/claim/cut.py") 214, Value.int 9 0, Value.int 3 0, Value.int 0 0, Value.int 0 0, Value.int 3 0, Value.ref 29, Value.bool true, Value.int 181 0, Value.ref 30, Value.none, Value.ref 31, Value.ref 32, Value.ref 33, Value.int 218 0, Value.int 9 0, Value.str (Str.ofString "/claim/cut.py") 219]) #[]) ::
    (nat_lit 35, Obj.mk (Value.type "function") none (Data.func (FuncData.mk (Str.ofString "__init__") (Str.ofString "CMap.__init__") ?a35 (FuncBody.stmts ?b35) ?c35 3 [] Value.none Value.none Value.none (Value.str (Str.ofString "paperhold.cmaps") 194) none (Value.ref 34) Value.none 0)) #[]) ::
    (nat_lit 36, Obj.mk (Value.type "tuple") none (Data.seq #[]) #[]) ::
    (nat_lit 38, Obj.mk (Value.type "tuple") none (Data.seq #[Value.str (Str.ofString "self") 224]) #[]) ::
    (nat_lit 39, Obj.mk (Value.type "tuple") none (Data.seq #[]) #[]) ::
    (nat_lit 41, Obj.mk (Value.type "code") none (Data.fields #[Value.str (Str.ofString "told") 221, Value.str (Str.ofString "CMap.told") 222, Value.str (Str.ofString "/claim/cut.py") 223, Value.int 13 0, Value.int 1 0, Value.int 0 0, Value.int 0 0, Value.int 3 0, Value.ref 36, Value.bool true, Value.int 181 0, Value.ref 37, Value.none, Value.ref 38, Value.ref 39, Value.ref 40, Value.int 225 0, Value.int 13 0, Value.str (Str.ofString "/claim/cut.py") 226]) #[]) ::
    (nat_lit 42, Obj.mk (Value.type "function") none (Data.func (FuncData.mk (Str.ofString "told") (Str.ofString "CMap.told") ?a42 (FuncBody.stmts ?b42) ?c42 3 [] Value.none Value.none Value.none (Value.str (Str.ofString "paperhold.cmaps") 194) none (Value.ref 41) Value.none 0)) #[]) ::
    (nat_lit 43, Obj.mk (Value.type "tuple") none (Data.seq #[Value.str (Str.ofString "chars") 228, Value.str (Str.ofString "spaces") 229]) #[]) ::
    (nat_lit 44, Obj.mk (Value.type "dict") none (Data.dict #[DictEntry.mk (PyData.keyHash P (Str.ofString "__module__")) (Value.str (Str.ofString "__module__") 207) (Value.str (Str.ofString "paperhold.cmaps") 194), DictEntry.mk (PyData.keyHash P (Str.ofString "__firstlineno__")) (Value.str (Str.ofString "__firstlineno__") 211) (Value.int 7 210), DictEntry.mk (PyData.keyHash P (Str.ofString "__init__")) (Value.str (Str.ofString "__init__") 220) (Value.ref 35), DictEntry.mk (PyData.keyHash P (Str.ofString "told")) (Value.str (Str.ofString "told") 227) (Value.ref 42), DictEntry.mk (PyData.keyHash P (Str.ofString "__static_attributes__")) (Value.str (Str.ofString "__static_attributes__") 230) (Value.ref 43), DictEntry.mk (PyData.keyHash P (Str.ofString "__dict__")) (Value.str (Str.ofString "__dict__") 232) (Value.ref 46), DictEntry.mk (PyData.keyHash P (Str.ofString "__weakref__")) (Value.str (Str.ofString "__weakref__") 234) (Value.ref 47), DictEntry.mk (PyData.keyHash P (Str.ofString "__doc__")) (Value.str (Str.ofString "__doc__") 235) Value.none] 4) #[]) ::
    (nat_lit 45, Obj.mk (Value.type "type") none (Data.cls (ClassData.mk (Str.ofString "CMap") [Value.type "object"] [Value.ref 45, Value.type "object"] 44 (Str.ofString "CMap") true [] [] false none false)) #[none, none, some (Value.str (Str.ofString "CMap") 200), some (Value.str (Str.ofString "CMap") 208), some (Value.builtin "object.__new__"), some (Value.bool true)]) ::
    (nat_lit 46, Obj.mk (Value.type "getset_descriptor") none (Data.fields #[Value.str (Str.ofString "__dict__") 231, Value.ref 45, Value.builtin "function.__dict__", Value.builtin "function.__dict__#set"]) #[]) ::
    (nat_lit 47, Obj.mk (Value.type "getset_descriptor") none (Data.fields #[Value.str (Str.ofString "__weakref__") 233, Value.ref 45, Value.builtin "ExceptionGroup.__weakref__", Value.none]) #[]) ::
    (nat_lit 50, Obj.mk (Value.type "tuple") none (Data.seq #[]) #[]) ::
    (nat_lit 52, Obj.mk (Value.type "tuple") none (Data.seq #[Value.str (Str.ofString "octets") 241, Value.str (Str.ofString "code") 242, Value.str (Str.ofString "octet") 243]) #[]) ::
    (nat_lit 53, Obj.mk (Value.type "tuple") none (Data.seq #[]) #[]) ::
    (nat_lit 55, Obj.mk (Value.type "code") none (Data.fields #[Value.str (Str.ofString "code_of") 238, Value.str (Str.ofString "code_of") 239, Value.str (Str.ofString "/claim/cut.py") 240, Value.int 15 0, Value.int 1 0, Value.int 0 0, Value.int 0 0, Value.int 3 0, Value.ref 50, Value.bool true, Value.int 181 0, Value.ref 51, Value.none, Value.ref 52, Value.ref 53, Value.ref 54, Value.int 244 0, Value.int 15 0, Value.str (Str.ofString "/claim/cut.py") 245]) #[]) ::
    (nat_lit 56, Obj.mk (Value.type "function") none (Data.func (FuncData.mk (Str.ofString "code_of") (Str.ofString "code_of") ?a56 (FuncBody.stmts ?b56) ?c56 3 [] Value.none Value.none Value.none (Value.str (Str.ofString "paperhold.cmaps") 194) none (Value.ref 55) Value.none 0)) #[]) ::
    (nat_lit 57, Obj.mk (Value.type "tuple") none (Data.seq #[]) #[]) ::
    (nat_lit 60, Obj.mk (Value.type "code") none (Data.fields #[Value.str (Str.ofString "code_octets") 247, Value.str (Str.ofString "code_octets") 248, Value.str (Str.ofString "/claim/cut.py") 249, Value.int 20 0, Value.int 2 0, Value.int 0 0, Value.int 0 0, Value.int 3 0, Value.ref 57, Value.bool true, Value.int 181 0, Value.ref 58, Value.none, Value.none, Value.none, Value.ref 59, Value.int 250 0, Value.int 20 0, Value.str (Str.ofString "/claim/cut.py") 251]) #[]) ::
    (nat_lit 61, Obj.mk (Value.type "function") none (Data.func (FuncData.mk (Str.ofString "code_octets") (Str.ofString "code_octets") ?a61 (FuncBody.stmts ?b61) ?c61 3 [] Value.none Value.none Value.none (Value.str (Str.ofString "paperhold.cmaps") 194) none (Value.ref 60) Value.none 0)) #[]) ::
    (nat_lit 62, Obj.mk (Value.type "tuple") none (Data.seq #[]) #[]) ::
    (nat_lit 64, Obj.mk (Value.type "tuple") none (Data.seq #[Value.str (Str.ofString "space") 256, Value.str (Str.ofString "octets") 257, Value.str (Str.ofString "length") 258, Value.str (Str.ofString "low") 259, Value.str (Str.ofString "high") 260, Value.str (Str.ofString "lows") 261, Value.str (Str.ofString "highs") 262, Value.str (Str.ofString "place") 263]) #[]) ::
    (nat_lit 65, Obj.mk (Value.type "tuple") none (Data.seq #[]) #[]) ::
    (nat_lit 67, Obj.mk (Value.type "code") none (Data.fields #[Value.str (Str.ofString "fitting") 253, Value.str (Str.ofString "fitting") 254, Value.str (Str.ofString "/claim/cut.py") 255, Value.int 22 0, Value.int 2 0, Value.int 0 0, Value.int 0 0, Value.int 3 0, Value.ref 62, Value.bool true, Value.int 181 0, Value.ref 63, Value.none, Value.ref 64, Value.ref 65, Value.ref 66, Value.int 264 0, Value.int 22 0, Value.str (Str.ofString "/claim/cut.py") 265]) #[]) ::
    (nat_lit 68, Obj.mk (Value.type "function") none (Data.func (FuncData.mk (Str.ofString "fitting") (Str.ofString "fitting") ?a68 (FuncBody.stmts ?b68) ?c68 3 [] Value.none Value.none Value.none (Value.str (Str.ofString "paperhold.cmaps") 194) none (Value.ref 67) Value.none 0)) #[]) ::
    (nat_lit 69, Obj.mk (Value.type "tuple") none (Data.seq #[]) #[]) ::
    (nat_lit 72, Obj.mk (Value.type "code") none (Data.fields #[Value.str (Str.ofString "next_length") 267, Value.str (Str.ofString "next_length") 268, Value.str (Str.ofString "/claim/cut.py") 269, Value.int 30 0, Value.int 2 0, Value.int 0 0, Value.int 0 0, Value.int 3 0, Value.ref 69, Value.bool true, Value.int 181 0, Value.ref 70, Value.none, Value.none, Value.none, Value.ref 71, Value.int 270 0, Value.int 30 0, Value.str (Str.ofString "/claim/cut.py") 271]) #[]) ::
    (nat_lit 73, Obj.mk (Value.type "function") none (Data.func (FuncData.mk (Str.ofString "next_length") (Str.ofString "next_length") ?a73 (FuncBody.stmts ?b73) ?c73 3 [] Value.none Value.none Value.none (Value.str (Str.ofString "paperhold.cmaps") 194) none (Value.ref 72) Value.none 0)) #[]) ::
    (nat_lit 74, Obj.mk (Value.type "tuple") none (Data.seq #[]) #[]) ::
    (nat_lit 76, Obj.mk (Value.type "tuple") none (Data.seq #[Value.str (Str.ofString "cmap") 276, Value.str (Str.ofString "octets") 277, Value.str (Str.ofString "found") 278, Value.str (Str.ofString "place") 279, Value.str (Str.ofString "ahead") 280, Value.str (Str.ofString "code") 281]) #[]) ::
    (nat_lit 77, Obj.mk (Value.type "tuple") none (Data.seq #[]) #[]) ::
    (nat_lit 79, Obj.mk (Value.type "code") none (Data.fields #[Value.str (Str.ofString "split_codes") 273, Value.str (Str.ofString "split_codes") 274, Value.str (Str.ofString "/claim/cut.py") 275, Value.int 39 0, Value.int 2 0, Value.int 0 0, Value.int 0 0, Value.int 3 0, Value.ref 74, Value.bool true, Value.int 181 0, Value.ref 75, Value.none, Value.ref 76, Value.ref 77, Value.ref 78, Value.int 282 0, Value.int 39 0, Value.str (Str.ofString "/claim/cut.py") 283]) #[]) ::
    (nat_lit 80, Obj.mk (Value.type "function") none (Data.func (FuncData.mk (Str.ofString "split_codes") (Str.ofString "split_codes") ?a80 (FuncBody.stmts ?b80) ?c80 3 [] Value.none Value.none Value.none (Value.str (Str.ofString "paperhold.cmaps") 194) none (Value.ref 79) Value.none 0)) #[]) ::
    (nat_lit 81, Obj.mk (Value.type "dict") none (Data.dict (List.toArray (DictEntry.mk (PyData.keyHash P ?x0) (Value.str ?x0 295) (Value.int ?y0 296) :: DictEntry.mk (PyData.keyHash P ?x1) (Value.str ?x1 298) (Value.int ?y1 299) :: DictEntry.mk (PyData.keyHash P ?x2) (Value.str ?x2 301) (Value.int ?y2 302) :: DictEntry.mk (PyData.keyHash P ?x3) (Value.str ?x3 304) (Value.int ?y3 305) :: DictEntry.mk (PyData.keyHash P ?x4) (Value.str ?x4 307) (Value.int ?y4 308) :: DictEntry.mk (PyData.keyHash P ?x5) (Value.str ?x5 310) (Value.int ?y5 311) :: DictEntry.mk (PyData.keyHash P ?x6) (Value.str ?x6 313) (Value.int ?y6 314) :: DictEntry.mk (PyData.keyHash P ?x7) (Value.str ?x7 316) (Value.int ?y7 317) :: DictEntry.mk (PyData.keyHash P ?x8) (Value.str ?x8 319) (Value.int ?y8 320) :: DictEntry.mk (PyData.keyHash P ?x9) (Value.str ?x9 322) (Value.int ?y9 323) :: DictEntry.mk (PyData.keyHash P ?x10) (Value.str ?x10 325) (Value.int ?y10 326) :: DictEntry.mk (PyData.keyHash P ?x11) (Value.str ?x11 328) (Value.int ?y11 329) :: DictEntry.mk (PyData.keyHash P ?x12) (Value.str ?x12 331) (Value.int ?y12 332) :: DictEntry.mk (PyData.keyHash P ?x13) (Value.str ?x13 334) (Value.int ?y13 335) :: DictEntry.mk (PyData.keyHash P ?x14) (Value.str ?x14 337) (Value.int ?y14 338) :: DictEntry.mk (PyData.keyHash P ?x15) (Value.str ?x15 340) (Value.int ?y15 341) :: DictEntry.mk (PyData.keyHash P ?x16) (Value.str ?x16 343) (Value.int ?y16 344) :: DictEntry.mk (PyData.keyHash P ?x17) (Value.str ?x17 346) (Value.int ?y17 347) :: DictEntry.mk (PyData.keyHash P ?x18) (Value.str ?x18 349) (Value.int ?y18 350) :: DictEntry.mk (PyData.keyHash P ?x19) (Value.str ?x19 352) (Value.int ?y19 353) :: DictEntry.mk (PyData.keyHash P ?x20) (Value.str ?x20 355) (Value.int ?y20 356) :: DictEntry.mk (PyData.keyHash P ?x21) (Value.str ?x21 358) (Value.int ?y21 359) :: DictEntry.mk (PyData.keyHash P ?x22) (Value.str ?x22 361) (Value.int ?y22 362) :: DictEntry.mk (PyData.keyHash P ?x23) (Value.str ?x23 364) (Value.int ?y23 365) :: DictEntry.mk (PyData.keyHash P ?x24) (Value.str ?x24 367) (Value.int ?y24 368) :: DictEntry.mk (PyData.keyHash P ?x25) (Value.str ?x25 370) (Value.int ?y25 371) :: DictEntry.mk (PyData.keyHash P ?x26) (Value.str ?x26 373) (Value.int ?y26 374) :: DictEntry.mk (PyData.keyHash P ?x27) (Value.str ?x27 376) (Value.int ?y27 377) :: DictEntry.mk (PyData.keyHash P ?x28) (Value.str ?x28 379) (Value.int ?y28 380) :: DictEntry.mk (PyData.keyHash P ?x29) (Value.str ?x29 382) (Value.int ?y29 383) :: DictEntry.mk (PyData.keyHash P ?x30) (Value.str ?x30 385) (Value.int ?y30 386) :: DictEntry.mk (PyData.keyHash P ?x31) (Value.str ?x31 388) (Value.int ?y31 389) :: DictEntry.mk (PyData.keyHash P ?x32) (Value.str ?x32 391) (Value.int ?y32 392) :: DictEntry.mk (PyData.keyHash P ?x33) (Value.str ?x33 394) (Value.int ?y33 395) :: DictEntry.mk (PyData.keyHash P ?x34) (Value.str ?x34 397) (Value.int ?y34 398) :: DictEntry.mk (PyData.keyHash P ?x35) (Value.str ?x35 399) (Value.int ?y35 400) :: DictEntry.mk (PyData.keyHash P ?x36) (Value.str ?x36 401) (Value.int ?y36 402) :: DictEntry.mk (PyData.keyHash P ?x37) (Value.str ?x37 403) (Value.int ?y37 404) :: DictEntry.mk (PyData.keyHash P ?x38) (Value.str ?x38 405) (Value.int ?y38 406) :: [])) 39) #[]) ::
    (nat_lit 84, Obj.mk (Value.type "tuple") none (Data.seq #[Value.int 55296 413, Value.int 57343 414]) #[]) ::
    (nat_lit 85, Obj.mk (Value.type "tuple") none (Data.seq #[]) #[]) ::
    (nat_lit 88, Obj.mk (Value.type "code") none (Data.fields #[Value.str (Str.ofString "ascii_names") 418, Value.str (Str.ofString "ascii_names") 419, Value.str (Str.ofString "/claim/cut.py") 420, Value.int 56 0, Value.int 0 0, Value.int 0 0, Value.int 0 0, Value.int 3 0, Value.ref 85, Value.bool true, Value.int 181 0, Value.ref 86, Value.none, Value.none, Value.none, Value.ref 87, Value.int 421 0, Value.int 56 0, Value.str (Str.ofString "/claim/cut.py") 422]) #[]) ::
    (nat_lit 89, Obj.mk (Value.type "function") none (Data.func (FuncData.mk (Str.ofString "ascii_names") (Str.ofString "ascii_names") ?a89 (FuncBody.stmts ?b89) ?c89 3 [] Value.none Value.none Value.none (Value.str (Str.ofString "paperhold.encodings") 285) none (Value.ref 88) Value.none 0)) #[]) ::
    (nat_lit 90, Obj.mk (Value.type "tuple") none (Data.seq #[]) #[]) ::
    (nat_lit 93, Obj.mk (Value.type "code") none (Data.fields #[Value.str (Str.ofString "latin_names") 424, Value.str (Str.ofString "latin_names") 425, Value.str (Str.ofString "/claim/cut.py") 426, Value.int 60 0, Value.int 0 0, Value.int 0 0, Value.int 0 0, Value.int 3 0, Value.ref 90, Value.bool true, Value.int 181 0, Value.ref 91, Value.none, Value.none, Value.none, Value.ref 92, Value.int 427 0, Value.int 60 0, Value.str (Str.ofString "/claim/cut.py") 428]) #[]) ::
    (nat_lit 94, Obj.mk (Value.type "function") none (Data.func (FuncData.mk (Str.ofString "latin_names") (Str.ofString "latin_names") ?a94 (FuncBody.stmts ?b94) ?c94 3 [] Value.none Value.none Value.none (Value.str (Str.ofString "paperhold.encodings") 285) none (Value.ref 93) Value.none 0)) #[]) ::
    (nat_lit 95, Obj.mk (Value.type "tuple") none (Data.seq #[]) #[]) ::
    (nat_lit 97, Obj.mk (Value.type "tuple") none (Data.seq #[Value.str (Str.ofString "signs") 433, Value.str (Str.ofString "worth") 434, Value.str (Str.ofString "sign") 435]) #[]) ::
    (nat_lit 98, Obj.mk (Value.type "tuple") none (Data.seq #[]) #[]) ::
    (nat_lit 100, Obj.mk (Value.type "code") none (Data.fields #[Value.str (Str.ofString "hex_number") 430, Value.str (Str.ofString "hex_number") 431, Value.str (Str.ofString "/claim/cut.py") 432, Value.int 65 0, Value.int 1 0, Value.int 0 0, Value.int 0 0, Value.int 3 0, Value.ref 95, Value.bool true, Value.int 181 0, Value.ref 96, Value.none, Value.ref 97, Value.ref 98, Value.ref 99, Value.int 436 0, Value.int 65 0, Value.str (Str.ofString "/claim/cut.py") 437]) #[]) ::
    (nat_lit 101, Obj.mk (Value.type "function") none (Data.func (FuncData.mk (Str.ofString "hex_number") (Str.ofString "hex_number") ?a101 (FuncBody.stmts ?b101) ?c101 3 [] Value.none Value.none Value.none (Value.str (Str.ofString "paperhold.encodings") 285) none (Value.ref 100) Value.none 0)) #[]) ::
    (nat_lit 102, Obj.mk (Value.type "tuple") none (Data.seq #[]) #[]) ::
    (nat_lit 104, Obj.mk (Value.type "tuple") none (Data.seq #[Value.str (Str.ofString "code") 442]) #[]) ::
    (nat_lit 105, Obj.mk (Value.type "tuple") none (Data.seq #[]) #[]) ::
    (nat_lit 107, Obj.mk (Value.type "code") none (Data.fields #[Value.str (Str.ofString "is_sign_code") 439, Value.str (Str.ofString "is_sign_code") 440, Value.str (Str.ofString "/claim/cut.py") 441, Value.int 72 0, Value.int 1 0, Value.int 0 0, Value.int 0 0, Value.int 3 0, Value.ref 102, Value.bool true, Value.int 181 0, Value.ref 103, Value.none, Value.ref 104, Value.ref 105, Value.ref 106, Value.int 443 0, Value.int 72 0, Value.str (Str.ofString "/claim/cut.py") 444]) #[]) ::
    (nat_lit 108, Obj.mk (Value.type "function") none (Data.func (FuncData.mk (Str.ofString "is_sign_code") (Str.ofString "is_sign_code") ?a108 (FuncBody.stmts ?b108) ?c108 3 [] Value.none Value.none Value.none (Value.str (Str.ofString "paperhold.encodings") 285) none (Value.ref 107) Value.none 0)) #[]) ::
    (nat_lit 109, Obj.mk (Value.type "tuple") none (Data.seq #[]) #[]) ::
    (nat_lit 111, Obj.mk (Value.type "tuple") none (Data.seq #[Value.str (Str.ofString "name") 449, Value.str (Str.ofString "names") 450]) #[]) ::
    (nat_lit 112, Obj.mk (Value.type "tuple") none (Data.seq #[]) #[]) ::
    (nat_lit 114, Obj.mk (Value.type "code") none (Data.fields #[Value.str (Str.ofString "known_code") 446, Value.str (Str.ofString "known_code") 447, Value.str (Str.ofString "/claim/cut.py") 448, Value.int 74 0, Value.int 1 0, Value.int 0 0, Value.int 0 0, Value.int 3 0, Value.ref 109, Value.bool true, Value.int 181 0, Value.ref 110, Value.none, Value.ref 111, Value.ref 112, Value.ref 113, Value.int 451 0, Value.int 74 0, Value.str (Str.ofString "/claim/cut.py") 452]) #[]) ::
    (nat_lit 115, Obj.mk (Value.type "function") none (Data.func (FuncData.mk (Str.ofString "known_code") (Str.ofString "known_code") ?a115 (FuncBody.stmts ?b115) ?c115 3 [] Value.none Value.none Value.none (Value.str (Str.ofString "paperhold.encodings") 285) none (Value.ref 114) Value.none 0)) #[]) ::
    (nat_lit 116, Obj.mk (Value.type "tuple") none (Data.seq #[]) #[]) ::
    (nat_lit 119, Obj.mk (Value.type "code") none (Data.fields #[Value.str (Str.ofString "part_text") 454, Value.str (Str.ofString "part_text") 455, Value.str (Str.ofString "/claim/cut.py") 456, Value.int 84 0, Value.int 1 0, Value.int 0 0, Value.int 0 0, Value.int 3 0, Value.ref 116, Value.bool true, Value.int 181 0, Value.ref 117, Value.none, Value.none, Value.none, Value.ref 118, Value.int 457 0, Value.int 84 0, Value.str (Str.ofString "/claim/cut.py") 458]) #[]) ::
    (nat_lit 120, Obj.mk (Value.type "function") none (Data.func (FuncData.mk (Str.ofString "part_text") (Str.ofString "part_text") ?a120 (FuncBody.stmts ?b120) ?c120 3 [] Value.none Value.none Value.none (Value.str (Str.ofString "paperhold.encodings") 285) none (Value.ref 119) Value.none 0)) #[]) ::
    (nat_lit 121, Obj.mk (Value.type "tuple") none (Data.seq #[]) #[]) ::
    (nat_lit 124, Obj.mk (Value.type "code") none (Data.fields #[Value.str (Str.ofString "glyph_text") 460, Value.str (Str.ofString "glyph_text") 461, Value.str (Str.ofString "/claim/cut.py") 462, Value.int 97 0, Value.int 1 0, Value.int 0 0, Value.int 0 0, Value.int 3 0, Value.ref 121, Value.bool true, Value.int 181 0, Value.ref 122, Value.none, Value.none, Value.none, Value.ref 123, Value.int 463 0, Value.int 97 0, Value.str (Str.ofString "/claim/cut.py") 464]) #[]) ::
    (nat_lit 125, Obj.mk (Value.type "function") none (Data.func (FuncData.mk (Str.ofString "glyph_text") (Str.ofString "glyph_text") ?a125 (FuncBody.stmts ?b125) ?c125 3 [] Value.none Value.none Value.none (Value.str (Str.ofString "paperhold.encodings") 285) none (Value.ref 124) Value.none 0)) #[]) ::
    (nat_lit 133, Obj.mk (Value.type "tuple") none (Data.seq #[]) #[]) ::
    (nat_lit 135, Obj.mk (Value.type "tuple") none (Data.seq #[Value.str (Str.ofString "self") 483, Value.str (Str.ofString "names") 484, Value.str (Str.ofString "cutting") 485, Value.str (Str.ofString "unicode") 486, Value.str (Str.ofString "rows") 487, Value.str (Str.ofString "default") 488, Value.str (Str.ofString "unit") 489, Value.str (Str.ofString "standard") 490]) #[]) ::
    (nat_lit 136, Obj.mk (Value.type "tuple") none (Data.seq #[]) #[]) ::
    (nat_lit 138, Obj.mk (Value.type "code") none (Data.fields #[Value.str (Str.ofString "__init__") 480, Value.str (Str.ofString "Font.__init__") 481, Value.str (Str.ofString "/claim/cut.py") 482, Value.int 102 0, Value.int 8 0, Value.int 0 0, Value.int 0 0, Value.int 3 0, Value.ref 133, Value.bool true, Value.int 181 0, Value.ref 134, Value.none, Value.ref 135, Value.ref 136, Value.ref 137, Value.int 491 0, Value.int 102 0, Value.str (Str.ofString "/claim/cut.py") 492]) #[]) ::
    (nat_lit 139, Obj.mk (Value.type "function") none (Data.func (FuncData.mk (Str.ofString "__init__") (Str.ofString "Font.__init__") ?a139 (FuncBody.stmts ?b139) ?c139 3 [] Value.none Value.none Value.none (Value.str (Str.ofString "paperhold.fonts") 466) none (Value.ref 138) Value.none 0)) #[]) ::
    (nat_lit 140, Obj.mk (Value.type "tuple") none (Data.seq #[]) #[]) ::
    (nat_lit 143, Obj.mk (Value.type "code") none (Data.fields #[Value.str (Str.ofString "codes") 494, Value.str (Str.ofString "Font.codes") 495, Value.str (Str.ofString "/claim/cut.py") 496, Value.int 111 0, Value.int 2 0, Value.int 0 0, Value.int 0 0, Value.int 3 0, Value.ref 140, Value.bool true, Value.int 181 0, Value.ref 141, Value.none, Value.none, Value.none, Value.ref 142, Value.int 497 0, Value.int 111 0, Value.str (Str.ofString "/claim/cut.py") 498]) #[]) ::
    (nat_lit 144, Obj.mk (Value.type "function") none (Data.func (FuncData.mk (Str.ofString "codes") (Str.ofString "Font.codes") ?a144 (FuncBody.stmts ?b144) ?c144 3 [] Value.none Value.none Value.none (Value.str (Str.ofString "paperhold.fonts") 466) none (Value.ref 143) Value.none 0)) #[]) ::
    (nat_lit 145, Obj.mk (Value.type "tuple") none (Data.seq #[]) #[]) ::
    (nat_lit 147, Obj.mk (Value.type "tuple") none (Data.seq #[Value.str (Str.ofString "self") 503, Value.str (Str.ofString "pair") 504]) #[]) ::
    (nat_lit 148, Obj.mk (Value.type "tuple") none (Data.seq #[]) #[]) ::
    (nat_lit 150, Obj.mk (Value.type "code") none (Data.fields #[Value.str (Str.ofString "width") 500, Value.str (Str.ofString "Font.width") 501, Value.str (Str.ofString "/claim/cut.py") 502, Value.int 116 0, Value.int 2 0, Value.int 0 0, Value.int 0 0, Value.int 3 0, Value.ref 145, Value.bool true, Value.int 181 0, Value.ref 146, Value.none, Value.ref 147, Value.ref 148, Value.ref 149, Value.int 505 0, Value.int 116 0, Value.str (Str.ofString "/claim/cut.py") 506]) #[]) ::
    (nat_lit 151, Obj.mk (Value.type "function") none (Data.func (FuncData.mk (Str.ofString "width") (Str.ofString "Font.width") ?a151 (FuncBody.stmts ?b151) ?c151 3 [] Value.none Value.none Value.none (Value.str (Str.ofString "paperhold.fonts") 466) none (Value.ref 150) Value.none 0)) #[]) ::
    (nat_lit 152, Obj.mk (Value.type "tuple") none (Data.seq #[]) #[]) ::
    (nat_lit 154, Obj.mk (Value.type "tuple") none (Data.seq #[Value.str (Str.ofString "self") 511, Value.str (Str.ofString "pair") 512]) #[]) ::
    (nat_lit 155, Obj.mk (Value.type "tuple") none (Data.seq #[]) #[]) ::
    (nat_lit 157, Obj.mk (Value.type "code") none (Data.fields #[Value.str (Str.ofString "text") 508, Value.str (Str.ofString "Font.text") 509, Value.str (Str.ofString "/claim/cut.py") 510, Value.int 119 0, Value.int 2 0, Value.int 0 0, Value.int 0 0, Value.int 3 0, Value.ref 152, Value.bool true, Value.int 181 0, Value.ref 153, Value.none, Value.ref 154, Value.ref 155, Value.ref 156, Value.int 513 0, Value.int 119 0, Value.str (Str.ofString "/claim/cut.py") 514]) #[]) ::
    (nat_lit 158, Obj.mk (Value.type "function") none (Data.func (FuncData.mk (Str.ofString "text") (Str.ofString "Font.text") ?a158 (FuncBody.stmts ?b158) ?c158 3 [] Value.none Value.none Value.none (Value.str (Str.ofString "paperhold.fonts") 466) none (Value.ref 157) Value.none 0)) #[]) ::
    (nat_lit 159, Obj.mk (Value.type "tuple") none (Data.seq #[Value.str (Str.ofString "cutting") 516, Value.str (Str.ofString "default") 517, Value.str (Str.ofString "names") 518, Value.str (Str.ofString "rows") 519, Value.str (Str.ofString "standard") 520, Value.str (Str.ofString "unicode") 521, Value.str (Str.ofString "unit") 522]) #[]) ::
    (nat_lit 160, Obj.mk (Value.type "dict") none (Data.dict #[DictEntry.mk (PyData.keyHash P (Str.ofString "__module__")) (Value.str (Str.ofString "__module__") 475) (Value.str (Str.ofString "paperhold.fonts") 466), DictEntry.mk (PyData.keyHash P (Str.ofString "__firstlineno__")) (Value.str (Str.ofString "__firstlineno__") 479) (Value.int 100 478), DictEntry.mk (PyData.keyHash P (Str.ofString "__init__")) (Value.str (Str.ofString "__init__") 493) (Value.ref 139), DictEntry.mk (PyData.keyHash P (Str.ofString "codes")) (Value.str (Str.ofString "codes") 499) (Value.ref 144), DictEntry.mk (PyData.keyHash P (Str.ofString "width")) (Value.str (Str.ofString "width") 507) (Value.ref 151), DictEntry.mk (PyData.keyHash P (Str.ofString "text")) (Value.str (Str.ofString "text") 515) (Value.ref 158), DictEntry.mk (PyData.keyHash P (Str.ofString "__static_attributes__")) (Value.str (Str.ofString "__static_attributes__") 523) (Value.ref 159), DictEntry.mk (PyData.keyHash P (Str.ofString "__dict__")) (Value.str (Str.ofString "__dict__") 525) (Value.ref 162), DictEntry.mk (PyData.keyHash P (Str.ofString "__weakref__")) (Value.str (Str.ofString "__weakref__") 527) (Value.ref 163), DictEntry.mk (PyData.keyHash P (Str.ofString "__doc__")) (Value.str (Str.ofString "__doc__") 528) Value.none] 4) #[]) ::
    (nat_lit 161, Obj.mk (Value.type "type") none (Data.cls (ClassData.mk (Str.ofString "Font") [Value.type "object"] [Value.ref 161, Value.type "object"] 160 (Str.ofString "Font") true [] [] false none false)) #[none, none, some (Value.str (Str.ofString "Font") 468), some (Value.str (Str.ofString "Font") 476), some (Value.builtin "object.__new__"), some (Value.bool true)]) ::
    (nat_lit 162, Obj.mk (Value.type "getset_descriptor") none (Data.fields #[Value.str (Str.ofString "__dict__") 524, Value.ref 161, Value.builtin "function.__dict__", Value.builtin "function.__dict__#set"]) #[]) ::
    (nat_lit 163, Obj.mk (Value.type "getset_descriptor") none (Data.fields #[Value.str (Str.ofString "__weakref__") 526, Value.ref 161, Value.builtin "ExceptionGroup.__weakref__", Value.none]) #[]) ::
    (nat_lit 166, Obj.mk (Value.type "tuple") none (Data.seq #[]) #[]) ::
    (nat_lit 169, Obj.mk (Value.type "code") none (Data.fields #[Value.str (Str.ofString "string_text") 531, Value.str (Str.ofString "string_text") 532, Value.str (Str.ofString "/claim/cut.py") 533, Value.int 123 0, Value.int 2 0, Value.int 0 0, Value.int 0 0, Value.int 3 0, Value.ref 166, Value.bool true, Value.int 181 0, Value.ref 167, Value.none, Value.none, Value.none, Value.ref 168, Value.int 534 0, Value.int 123 0, Value.str (Str.ofString "/claim/cut.py") 535]) #[]) ::
    (nat_lit 170, Obj.mk (Value.type "function") none (Data.func (FuncData.mk (Str.ofString "string_text") (Str.ofString "string_text") ?a170 (FuncBody.stmts ?b170) ?c170 3 [] Value.none Value.none Value.none (Value.str (Str.ofString "paperhold.fonts") 466) none (Value.ref 169) Value.none 0)) #[]) ::
    (nat_lit 171, Obj.mk (Value.type "tuple") none (Data.seq #[]) #[]) ::
    (nat_lit 174, Obj.mk (Value.type "code") none (Data.fields #[Value.str (Str.ofString "_law_pot") 539, Value.str (Str.ofString "_law_pot") 540, Value.str (Str.ofString "/claim/cut.py") 541, Value.int 126 0, Value.int 1 0, Value.int 0 0, Value.int 0 0, Value.int 3 0, Value.ref 171, Value.bool true, Value.int 181 0, Value.ref 172, Value.none, Value.none, Value.none, Value.ref 173, Value.int 542 0, Value.int 126 0, Value.str (Str.ofString "/claim/cut.py") 543]) #[]) ::
    (nat_lit 175, Obj.mk (Value.type "function") none (Data.func (FuncData.mk (Str.ofString "_law_pot") (Str.ofString "_law_pot") ?a175 (FuncBody.stmts ?b175) ?c175 3 [] Value.none Value.none Value.none (Value.str (Str.ofString "law_xw0248_01") 537) none (Value.ref 174) Value.none 0)) #[]) ::
    (nat_lit 176, Obj.mk (Value.type "tuple") none (Data.seq #[]) #[]) ::
    (nat_lit 178, Obj.mk (Value.type "tuple") none (Data.seq #[Value.str (Str.ofString "pot") 548, Value.str (Str.ofString "limit") 549, Value.str (Str.ofString "place") 550, Value.str (Str.ofString "spot") 551, Value.str (Str.ofString "here") 552]) #[]) ::
    (nat_lit 179, Obj.mk (Value.type "tuple") none (Data.seq #[]) #[]) ::
    (nat_lit 181, Obj.mk (Value.type "code") none (Data.fields #[Value.str (Str.ofString "_law_draw") 545, Value.str (Str.ofString "_law_draw") 546, Value.str (Str.ofString "/claim/cut.py") 547, Value.int 132 0, Value.int 2 0, Value.int 0 0, Value.int 0 0, Value.int 3 0, Value.ref 176, Value.bool true, Value.int 181 0, Value.ref 177, Value.none, Value.ref 178, Value.ref 179, Value.ref 180, Value.int 553 0, Value.int 132 0, Value.str (Str.ofString "/claim/cut.py") 554]) #[]) ::
    (nat_lit 182, Obj.mk (Value.type "function") none (Data.func (FuncData.mk (Str.ofString "_law_draw") (Str.ofString "_law_draw") ?a182 (FuncBody.stmts ?b182) ?c182 3 [] Value.none Value.none Value.none (Value.str (Str.ofString "law_xw0248_01") 537) none (Value.ref 181) Value.none 0)) #[]) ::
    (nat_lit 183, Obj.mk (Value.type "tuple") none (Data.seq #[]) #[]) ::
    (nat_lit 186, Obj.mk (Value.type "code") none (Data.fields #[Value.str (Str.ofString "law") 556, Value.str (Str.ofString "law") 557, Value.str (Str.ofString "/claim/cut.py") 558, Value.int 143 0, Value.int 1 0, Value.int 0 0, Value.int 0 0, Value.int 3 0, Value.ref 183, Value.bool true, Value.int 181 0, Value.ref 184, Value.none, Value.none, Value.none, Value.ref 185, Value.int 559 0, Value.int 143 0, Value.str (Str.ofString "/claim/cut.py") 560]) #[]) ::
    (nat_lit 187, Obj.mk (Value.type "function") none (Data.func (FuncData.mk (Str.ofString "law") (Str.ofString "law") ?a187 (FuncBody.stmts ?b187) ?c187 3 [] Value.none Value.none Value.none (Value.str (Str.ofString "law_xw0248_01") 537) none (Value.ref 186) Value.none 0)) #[]) :: []) : Frag)) pz
local macro_rules | `(tactic| k_head) => `(tactic| o_head (kHook Mine.K [nat_lit 2, nat_lit 3, nat_lit 15, nat_lit 17, nat_lit 18, nat_lit 20, nat_lit 21, nat_lit 29, nat_lit 31, nat_lit 32, nat_lit 34, nat_lit 35, nat_lit 36, nat_lit 38, nat_lit 39, nat_lit 41, nat_lit 42, nat_lit 43, nat_lit 44, nat_lit 45, nat_lit 46, nat_lit 47, nat_lit 50, nat_lit 52, nat_lit 53, nat_lit 55, nat_lit 56, nat_lit 57, nat_lit 60, nat_lit 61, nat_lit 62, nat_lit 64, nat_lit 65, nat_lit 67, nat_lit 68, nat_lit 69, nat_lit 72, nat_lit 73, nat_lit 74, nat_lit 76, nat_lit 77, nat_lit 79, nat_lit 80, nat_lit 81, nat_lit 84, nat_lit 85, nat_lit 88, nat_lit 89, nat_lit 90, nat_lit 93, nat_lit 94, nat_lit 95, nat_lit 97, nat_lit 98, nat_lit 100, nat_lit 101, nat_lit 102, nat_lit 104, nat_lit 105, nat_lit 107, nat_lit 108, nat_lit 109, nat_lit 111, nat_lit 112, nat_lit 114, nat_lit 115, nat_lit 116, nat_lit 119, nat_lit 120, nat_lit 121, nat_lit 124, nat_lit 125, nat_lit 133, nat_lit 135, nat_lit 136, nat_lit 138, nat_lit 139, nat_lit 140, nat_lit 143, nat_lit 144, nat_lit 145, nat_lit 147, nat_lit 148, nat_lit 150, nat_lit 151, nat_lit 152, nat_lit 154, nat_lit 155, nat_lit 157, nat_lit 158, nat_lit 159, nat_lit 160, nat_lit 161, nat_lit 162, nat_lit 163, nat_lit 166, nat_lit 169, nat_lit 170, nat_lit 171, nat_lit 174, nat_lit 175, nat_lit 176, nat_lit 178, nat_lit 179, nat_lit 181, nat_lit 182, nat_lit 183, nat_lit 186, nat_lit 187] (fun _ => by kernel_rfl)))
def g (i : Nat) : Stmt := (PySem.Challenge.pw_xw0248_01.main.body[i]?).getD (.Pass ⟨0, 0, 0, 0⟩)
def pw : Program := { PySem.Challenge.pw_xw0248_01 with main := { PySem.Challenge.pw_xw0248_01.main with body := g 0 :: g 1 :: g 2 :: g 3 :: g 4 :: g 5 :: g 6 :: g 7 :: g 8 :: g 9 :: g 10 :: g 11 :: g 12 :: g 13 :: g 14 :: g 15 :: g 16 :: g 17 :: g 18 :: g 19 :: g 20 :: g 21 :: g 22 :: g 23 :: g 24 :: g 25 :: g 26 :: g 27 :: g 28 :: g 29 :: g 30 :: g 31 :: [] } }
def rw : OpenLaw := { PySem.Challenge.rw_xw0248_01 with prog := pw }
theorem rw_eq : PySem.Challenge.rw_xw0248_01 = rw := by kernel_rfl
theorem back (h : rw.Holds) : PySem.Challenge.rw_xw0248_01.Holds := by rw [rw_eq]; exact h
open_top hd for Mine.rw
end Mine
local macro_rules | `(tactic| walk_at "one step") => `(tactic| (first | (k_unfold; (try dsimp only)) | (k_end; wrow_close) | walk1 | (dsimp only; walk1) | (leave1; walk_say "STEP leave1"; try dsimp only) | fail "no step"))
section
open PySem PySem.W PyProof.Rows
namespace Mine
noncomputable abbrev AR (dp un : Nat) (gd : Option (List Code)) (env : Env) (outer : List Env) : Around := { handled := none, depth := dp, frames := some (env :: outer), guards := gd, units := un }
/-- where a call stands -/
structure Gr (w : World) (mean : ExcName → Option Value) (mg mb : Str → Option Value) (A₀ : Around) (base : Heap) (env : Env) (outer : List Env) (h₀ : Heap) (L : Addr) (m : Str → Option Value) (s : Shared) : Prop where
  B : Below A₀ base outer h₀
  F : Fr h₀ L s.heap m
  T : Top hd.view_39 (looseW hd.view_39 [Str.ofString "OTHER_CODES"]) mean mg mb h₀
  hf : env.frame = some L
  hk : env.scope.kind = .function
/-- a call that leaves what there is as it is: its depth, its C units, its arguments, its result -/
noncomputable def PureC (w : World) (d u : Nat) (f : Addr) (args : List Value) (Res : Heap → Value → Heap → Prop) : Prop :=
  ∀ (mean : ExcName → Option Value) (mg mb : Str → Option Value) (A : Around) (env : Env) (outer : List Env) (A₀ : Around) (base h₀ : Heap) (L : Addr) (m : Str → Option Value) (s : Shared) (Q E : Value → Shared → Prop),
    Gr w mean mg mb A₀ base env outer h₀ L m s → Frag.In (Mine.K w.params) h₀ → A.handled = none → A.frames = some (env :: outer) → A.depth + d < recursionLimit → A.units + u < cLine →
    (∀ r h' tk', (∀ b o, s.heap.get? b = some o → h'.get? b = some o) → Res s.heap r h' → Q r { s with heap := h', toks := tk' }) →
    wpAny (model Mine.rw.row.prog w) A (call (.ref f) args) Q E s
theorem map_has {m : Str → Option Value} {x : Str} {v : Value} (h : m x = some v) : m = fun y => if y = x then some v else m y := by
  funext y
  by_cases e : y = x
  · rw [if_pos e, e, h]
  · rw [if_neg e]
theorem news_fresh {h₀ h h' : Heap} {L D : Addr} {m : Str → Option Value} {o : Obj} {news : List (Addr × Obj)} (F : Fr h₀ L h m) (hD0 : h.get? D = none) (hD : h'.get? D = some o) (N : News h₀ L h' news) : News h₀ L h' ((D, o) :: news) := by
  intro p hp
  rcases List.mem_cons.mp hp with rfl | hp
  · refine ⟨hD, ?_, ?_⟩
    · rintro e
      obtain ⟨oL, _, _, hL, _⟩ := F.ns
      have e' : D = L := e
      rw [e', hL] at hD0; cases hD0
    · cases q : h₀.get? D with
      | none => rfl
      | some o' => rw [F.keep _ _ q] at hD0; cases hD0
  · exact N p hp
/-- a new list of these texts -/
noncomputable def NewStrs (ss : List Str) (h0 : Heap) (r : Value) (h' : Heap) : Prop := ∃ D vs n, r = .ref D ∧ h0.get? D = none ∧ h'.get? D = some (W.listOf vs.toArray n) ∧ StrsAre vs ss
theorem fresh_in {h g h' : Heap} {L D : Addr} {o : Obj} {as : List Addr} {news : List (Addr × Obj)} (kG : GSub h g as) (has : D ∉ as) (N : News g L h' news) (hm : (D, o) ∈ news) : h.get? D = none := by
  cases q : h.get? D with
  | none => rfl
  | some o' => have := kG D o' q has; rw [(N _ hm).2.2] at this; cases this
theorem PureC.of {w : World} {d u : Nat} {f : Addr} {args : List Value} {Res : Heap → Value → Heap → Prop}
    (H : ∀ (mean : ExcName → Option Value) (mg mb : Str → Option Value) (dp un : Nat) (gd : Option (List Code)) (env : Env) (outer : List Env) (A₀ : Around) (base h₀ : Heap) (L : Addr) (m : Str → Option Value) (s : Shared) (Q E : Value → Shared → Prop),
      Frag.In (Mine.K w.params) h₀ → Below A₀ base outer h₀ → Fr h₀ L s.heap m → Top hd.view_39 (looseW hd.view_39 [Str.ofString "OTHER_CODES"]) mean mg mb h₀ → env.frame = some L → env.scope.kind = .function → dp + d < recursionLimit → un + u < cLine →
      (∀ r h' tk', (∀ b o, s.heap.get? b = some o → h'.get? b = some o) → Res s.heap r h' → Q r { s with heap := h', toks := tk' }) →
      wpAny (model Mine.rw.row.prog w) (AR dp un gd env outer) (call (.ref f) args) Q E s) : PureC w d u f args Res := by
  intro mean mg mb A env outer A₀ base h₀ L m s Q E G X hh hA hd hu ret
  obtain ⟨hdl, dp, fr, gd, un⟩ := A
  simp only at hh hA hd hu
  subst hh hA
  exact H mean mg mb dp un gd env outer A₀ base h₀ L m s Q E X G.B G.F G.T G.hf G.hk hd hu ret
theorem PureC.use {w : World} {d u : Nat} {f : Addr} {args : List Value} {Res : Heap → Value → Heap → Prop} (P : PureC w d u f args Res)
    {mean : ExcName → Option Value} {mg mb : Str → Option Value} {A : Around} {env : Env} {outer : List Env} {A₀ : Around} {base h₀ : Heap} {L : Addr} {m : Str → Option Value} {s : Shared} {Q E : Value → Shared → Prop} {news : List (Addr × Obj)}
    (B : Below A₀ base outer h₀) (F : Fr h₀ L s.heap m) (N : News h₀ L s.heap news) (X : Frag.In (Mine.K w.params) h₀) (T : Top hd.view_39 (looseW hd.view_39 [Str.ofString "OTHER_CODES"]) mean mg mb h₀)
    (hh : A.handled = none) (hA : A.frames = some (env :: outer)) (hf : env.frame = some L) (hk : env.scope.kind = .function) (hd : A.depth + d < recursionLimit) (hu : A.units + u < cLine)
    (ret : ∀ r h' tk', Fr h₀ L h' m → News h₀ L h' news → (∀ b o, s.heap.get? b = some o → h'.get? b = some o) → Res s.heap r h' → Q r { s with heap := h', toks := tk' }) :
    wpAny (model Mine.rw.row.prog w) A (call (.ref f) args) Q E s :=
  P mean mg mb A env outer A₀ base h₀ L m s Q E ⟨B, F, T, hf, hk⟩ X hh hA hd hu fun r h' tk' k q => ret r h' tk' (F.keeps k) (N.grown k) k q

section
variable {prog : Program} {w : World} {A : Around} {h₀ : Heap} {L : Addr} {m : Str → Option Value} {env : Env} {elt : Expr} {x : Str} {scope : Scope} {cl : List (Str × Addr)} {s : Shared} {S : List (Addr × Obj) → Prop} {P : Nat → Value → Prop} {Fin : List Value → List (Addr × Obj) → Prop} {news : List (Addr × Obj)}
/-- a comprehension by what holds of what is built and of the ledger -/
theorem rest_inv {n : Nat} (J : Nat → List Value → List (Addr × Obj) → Prop)
    (turn : ∀ i v ys news₁ I oI C oC D m₂ h tk (E' : Value → Shared → Prop), i < n → P i v → J i ys news₁ → LCg.NsObj oC m₂ → m₂ x = some v → Fr h₀ L h m → News h₀ L h ((I, oI) :: (C, oC) :: (D, LCg.lst ys) :: news₁) → LCg.Off3 I C D news₁ → ((@Ne Nat I C) ∧ (@Ne Nat I D) ∧ (@Ne Nat C D)) →
      wpAny (model prog w) A (eval elt (compEnvC scope cl C env)) (LCg.CompEnd h₀ L m { s with heap := h, toks := tk } I oI C oC D (LCg.lst ys) S (fun y news' => J (i + 1) (ys ++ [y]) news')) E' { s with heap := h, toks := tk })
    (j0 : J 0 [] news) (fin : ∀ ys news', J n ys news' → Fin ys news') : LCg.CompRest prog w A h₀ L m env elt x scope cl s S P Fin n 0 [] news := by
  have key : ∀ (j i : Nat) (ys : List Value) (news₁ : List (Addr × Obj)), i + j = n → J i ys news₁ → LCg.CompRest prog w A h₀ L m env elt x scope cl s S P Fin j i ys news₁ := by
    intro j
    induction j with
    | zero =>
      intro i ys news₁ hi hJ
      have e : i = n := by omega
      subst e
      exact LCg.CompRest.zero (fin ys news₁ hJ)
    | succ j ih =>
      intro i ys news₁ hi hJ
      refine LCg.CompRest.succ ?_
      intro v I oI C oC D m₂ h tk E' hv hC hx F N off ne
      refine wpAny_mono (turn i v ys news₁ I oI C oC D m₂ h tk E' (by omega) hv hJ hC hx F N off ne) (fun y s₂ hq => ?_) fun _ _ e => e
      obtain ⟨h', tk', nw, e, F', N', off', hS, hn⟩ := hq
      exact ⟨h', tk', nw, e, F', N', off', hS, ih (i + 1) _ nw (by omega) hn⟩
  exact key n 0 [] news (by omega) j0
theorem rest_same {n : Nat} (J : Nat → List Value → Prop)
    (turn : ∀ i v ys I oI C oC D m₂ h tk (E' : Value → Shared → Prop), i < n → P i v → J i ys → LCg.NsObj oC m₂ → m₂ x = some v → Fr h₀ L h m → News h₀ L h ((I, oI) :: (C, oC) :: (D, LCg.lst ys) :: news) → LCg.Off3 I C D news → ((@Ne Nat I C) ∧ (@Ne Nat I D) ∧ (@Ne Nat C D)) →
      wpAny (model prog w) A (eval elt (compEnvC scope cl C env)) (LCg.CompEnd h₀ L m { s with heap := h, toks := tk } I oI C oC D (LCg.lst ys) S (fun y news' => news' = news ∧ J (i + 1) (ys ++ [y]))) E' { s with heap := h, toks := tk })
    (j0 : J 0 []) (fin : ∀ ys, J n ys → Fin ys news) : LCg.CompRest prog w A h₀ L m env elt x scope cl s S P Fin n 0 [] news := by
  refine rest_inv (fun i ys nw => nw = news ∧ J i ys) ?_ ⟨rfl, j0⟩ ?_
  · rintro i v ys news₁ I oI C oC D m₂ h tk E' hi hv ⟨rfl, hJ⟩ hC hx F N off ne
    exact turn i v ys I oI C oC D m₂ h tk E' hi hv hJ hC hx F N off ne
  · rintro ys nw ⟨rfl, hJ⟩
    exact fin ys hJ
theorem strs_snoc {y : PySem.Str} {t : Tok} : ∀ {vs : List Value} {ys : List PySem.Str}, StrsAre vs ys → StrsAre (vs ++ [.str y t]) (ys ++ [y])
  | _, _, .nil => .cons y t .nil
  | _, _, .cons z u r => .cons z u (strs_snoc r)
theorem strs_len {vs : List Value} {ss : List Str} (h : StrsAre vs ss) : vs.length = ss.length := by
  induction h with
  | nil => rfl
  | cons _ _ _ ih => simp [ih]
theorem strs_cast {vs : List Value} {ss ts : List Str} (h : StrsAre vs ss) (e : ss = ts) : StrsAre vs ts := e ▸ h
theorem strs_get : ∀ {vs : List Value} {ss : List Str}, StrsAre vs ss → ∀ {i : Nat} {v : Value}, vs[i]? = some v → ∃ s t, v = .str s t ∧ ss[i]? = some s
  | _, _, .nil, _, _, h => by cases h
  | _, _, .cons y t _, 0, _, h => by cases h; exact ⟨y, t, rfl, rfl⟩
  | _, _, .cons _ _ r, i + 1, _, h => strs_get r (by simpa using h)
/-- an element that is a text -/
noncomputable def TxEl (news : List (Addr × Obj)) (r : PySem.Str) (y : Value) (news' : List (Addr × Obj)) : Prop := news' = news ∧ ∃ t : Tok, y = .str r t
theorem TxEl.mk {news news' : List (Addr × Obj)} {r r' : PySem.Str} {y : Value} {t : Tok} (e : r' = r) (hn : news' = news) (hy : y = .str r' t) : TxEl news r y news' := by subst e; exact ⟨hn, t, hy⟩
/-- a comprehension whose elements are texts, told by the source's place -/
theorem rest_strs {n : Nat} (ts : List Str) (hts : ts.length = n)
    (turn : ∀ i v r ys I oI C oC D m₂ h tk (E' : Value → Shared → Prop), i < n → P i v → ts[i]? = some r → LCg.NsObj oC m₂ → m₂ x = some v → Fr h₀ L h m → News h₀ L h ((I, oI) :: (C, oC) :: (D, LCg.lst ys) :: news) → LCg.Off3 I C D news → ((@Ne Nat I C) ∧ (@Ne Nat I D) ∧ (@Ne Nat C D)) →
      wpAny (model prog w) A (eval elt (compEnvC scope cl C env)) (LCg.CompEnd h₀ L m { s with heap := h, toks := tk } I oI C oC D (LCg.lst ys) S (fun y news' => TxEl news r y news')) E' { s with heap := h, toks := tk })
    (fin : ∀ ys, StrsAre ys ts → Fin ys news) : LCg.CompRest prog w A h₀ L m env elt x scope cl s S P Fin n 0 [] news := by
  refine rest_inv (fun i ys nw => nw = news ∧ StrsAre ys (ts.take i)) ?_ ⟨rfl, by simpa using StrsAre.nil⟩ ?_
  · rintro i v ys news₁ I oI C oC D m₂ h tk E' hi hv ⟨rfl, hy⟩ hC hx F N off ne
    have hr : ts[i]? = some ts[i] := by simp
    refine wpAny_mono (turn i v ts[i] ys I oI C oC D m₂ h tk E' hi hv hr hC hx F N off ne) (fun y s₂ hq => ?_) fun _ _ e => e
    obtain ⟨h', tk', nw, e, F', N', off', hS, hn, t, hy'⟩ := hq
    subst hn
    refine ⟨h', tk', nw, e, F', N', off', hS, rfl, ?_⟩
    subst hy'
    have e2 : ts.take (i + 1) = ts.take i ++ [ts[i]] := by rw [List.take_add_one, hr]; rfl
    rw [e2]
    exact strs_snoc hy
  · rintro ys nw ⟨rfl, hy⟩
    exact fin ys (by rw [← hts, List.take_length] at hy; exact hy)
end
section
variable {prog : Program} {w : World} {A : Around} {E : Value → Shared → Prop} {s : Shared} {h₀ : Heap} {L : Addr} {m : Str → Option Value} {news : List (Addr × Obj)}
theorem add_strs {l b : Addr} {vs ws : List Value} {ss ts : List Str} {Q : Value → Shared → Prop} (F : Fr h₀ L s.heap m) (N : News h₀ L s.heap news) (hl : s.heap.IsList l vs.toArray) (hb : s.heap.IsList b ws.toArray)
    (h1 : StrsAre vs ss) (h2 : StrsAre ws ts) (hsz : ss.length + ts.length ≤ 1000)
    (h : ∀ D vs' h', StrsAre vs' (ss ++ ts) → Fr h₀ L h' m → News h₀ L h' ((D, W.listOf vs'.toArray 0) :: news) → (∀ p ∈ news, p.1 < D) → Q (.ref D) { s with heap := h' }) :
    wpAny (model prog w) A (binaryOp .Add (.ref l) (.ref b)) Q E s := by
  refine add_arrays F N hl hb (fun h' F' N' => ?_) ?_
  · refine h _ (vs ++ ws) h' (StrsAre.append' h1 h2) F' ?_ fun p hp => Heap.lt_size (N p hp).1
    simpa using N'
  · rw [sizeLine_eq, List.size_toArray, List.size_toArray, strs_len h1, strs_len h2]
    omega
theorem set_any {D : Addr} {vs : List Value} {n : Nat} {k : Int} {t : Tok} {v : Value} {news' : List (Addr × Obj)} {Q : Unit → Shared → Prop} (F : Fr h₀ L s.heap m) (N : News h₀ L s.heap news)
    (U : Upd D (W.listOf vs.toArray n) (W.listOf (vs.set k.toNat v).toArray n) news news') (h0 : 0 ≤ k) (h1 : k < vs.length) (hfit : k < 2 ^ 63)
    (h : ∀ h', Fr h₀ L h' m → News h₀ L h' news' → Q () { s with heap := h' }) : wpAny (model prog w) A (setItem (.ref D) (.int k t) v) Q E s := by
  obtain ⟨pre, post, rfl, rfl, a, b⟩ := U.split
  have z := N (D, W.listOf vs.toArray n) (List.mem_append.mpr (.inr (.head _)))
  have hs : vs.toArray.size = vs.length := List.size_toArray
  have hj : k.toNat < vs.length := by omega
  refine ki_setAt z.1 h0 hfit (by omega) (h _ (F.change (Heap.SameBut.update ..) z.2.1 z.2.2) (ki_turn _ N a b ?_ ?_))
  · show vs.toArray.setIfInBounds k.toNat v = (vs.set k.toNat v).toArray
    apply Array.toList_inj.mp
    simp
  · simp
theorem sub_any {value slice : PySem.Expr} {l : Addr} {vs : List Value} {k : Int} {u : Tok} {v : Value} {Q : Value → Shared → Prop}
    (hl : s.heap.IsList l vs.toArray) (h0 : 0 ≤ k) (hhi : k < 2 ^ 63) (hx : vs[k.toNat]? = some v) (h : Q v s)
    (hs : subscripted slice false (.ref l) (.int k u) = operate [.ref l, .int k u] (getItem (.ref l) (.int k u)) := by with_unfolding_all rfl) :
    wpAny (model prog w) A (subscriptTail value slice (.ref l) (.int k u)) Q E s :=
  tail_any hl.typeIs slot_list_getitem.lookup (wpAny_getItem_list hl h0 hhi (by simpa using hx) h) hs
end
theorem posts_var {α : Type} {M : Model} {A : Around} {c : Sem α} {Q : α → Shared → Prop} {E : Value → Shared → Prop} {s : Shared} (h : ∀ (Q' : α → Shared → Prop) (E' : Value → Shared → Prop), (∀ x s, Q x s → Q' x s) → wpAny M A c Q' E' s) : wpAny M A c Q E s := h Q E fun _ _ => id
/-- the same state, but for the heap and the token count -/
noncomputable def Rest (a b : Shared) : Prop := b = { a with heap := b.heap, toks := b.toks }
theorem Rest.rf {a : Shared} : Rest a a := rfl
theorem Rest.put {a b : Shared} {h : Heap} {k : Nat} (R : Rest a b) : Rest a { b with heap := h, toks := k } := by unfold Rest at *; rw [R]
theorem execs_cut {M : Model} {A : Around} {env : Env} {c : Stmt} {r : List Stmt} {Q : Flow → Shared → Prop} {E : Value → Shared → Prop} {s : Shared}
    (H : ∀ (Q' : Flow → Shared → Prop) (E' : Value → Shared → Prop), (∀ s', wpAny M A (execs r env) Q E s' → Q' .next s') → (∀ v s', Q (.ret v) s' → Q' (.ret v) s') → wpAny M A (exec c env) Q' E' s) : wpAny M A (execs (c :: r) env) Q E s :=
  wpAny_execs_cons (H _ _ (fun _ h => h) (fun _ _ h => h))
theorem PureC.of' {w : World} {d u : Nat} {f : Addr} {args : List Value} {Res : Heap → Value → Heap → Prop}
    (H : ∀ (mean : ExcName → Option Value) (mg mb : Str → Option Value) (dp un : Nat) (gd : Option (List Code)) (env : Env) (outer : List Env) (A₀ : Around) (base h₀ : Heap) (L : Addr) (m : Str → Option Value) (s : Shared) (Q E : Value → Shared → Prop),
      Frag.In (Mine.K w.params) h₀ → Below A₀ base outer h₀ → Fr h₀ L s.heap m → Top hd.view_39 (looseW hd.view_39 [Str.ofString "OTHER_CODES"]) mean mg mb h₀ → env.frame = some L → env.scope.kind = .function → dp + d < recursionLimit → un + u < cLine →
      (∀ r s', Rest s s' → (∀ b o, s.heap.get? b = some o → s'.heap.get? b = some o) → Res s.heap r s'.heap → Q r s') →
      wpAny (model Mine.rw.row.prog w) (AR dp un gd env outer) (call (.ref f) args) Q E s) : PureC w d u f args Res :=
  PureC.of fun mean mg mb dp un gd env outer A₀ base h₀ L m s Q E X B F T hf hk hd hu ret => H mean mg mb dp un gd env outer A₀ base h₀ L m s Q E X B F T hf hk hd hu fun r s' R k q => R ▸ ret r s'.heap s'.toks k q
theorem PureC.use' {w : World} {d u : Nat} {f : Addr} {args : List Value} {Res : Heap → Value → Heap → Prop} (P : PureC w d u f args Res)
    {mean : ExcName → Option Value} {mg mb : Str → Option Value} {A : Around} {env : Env} {outer : List Env} {A₀ : Around} {base h₀ : Heap} {L : Addr} {m : Str → Option Value} {s₀ s : Shared} {Q E : Value → Shared → Prop} {news : List (Addr × Obj)}
    (R : Rest s₀ s) (B : Below A₀ base outer h₀) (F : Fr h₀ L s.heap m) (N : News h₀ L s.heap news) (X : Frag.In (Mine.K w.params) h₀) (T : Top hd.view_39 (looseW hd.view_39 [Str.ofString "OTHER_CODES"]) mean mg mb h₀)
    (hh : A.handled = none) (hA : A.frames = some (env :: outer)) (hf : env.frame = some L) (hk : env.scope.kind = .function) (hd : A.depth + d < recursionLimit) (hu : A.units + u < cLine)
    (ret : ∀ r s', Rest s₀ s' → Fr h₀ L s'.heap m → News h₀ L s'.heap news → (∀ b o, s.heap.get? b = some o → s'.heap.get? b = some o) → Res s.heap r s'.heap → Q r s') :
    wpAny (model Mine.rw.row.prog w) A (call (.ref f) args) Q E s :=
  PureC.use P B F N X T hh hA hf hk hd hu fun r h' tk' F' N' k q => ret r { s with heap := h', toks := tk' } R.put F' N' k q
end Mine
end
local macro_rules | `(tactic| walk_at "cut step") => `(tactic| (first | (with_reducible refine Mine.execs_cut ?_; intro Qs Es hN hR) | walk_at "one step" | with_reducible apply_assumption))
local macro_rules | `(tactic| k_room) => `(tactic| ((try simp only [depth_mark, depth_under_make, depth_under_kw, depth_in1, depth_deeper, depth_caller]); (dsimp only [Mine.AR]; omega)))
local macro_rules | `(tactic| k_ne) => `(tactic| (refine neN ?_; (try dsimp only); first | (simp only [*, ne_eq, not_false_eq_true]; done) | (refine Ne.symm ?_; simp only [*, ne_eq, not_false_eq_true]; done)))
local macro_rules | `(tactic| mul_fits) => `(tactic| first | assumption | exact PySem.IntMulOk.of_right (by decide))
section
open PySem PySem.W PyProof.Rows
namespace Mine
/-- words, by one pass -/
noncomputable def spl : List Nat → List Nat → List Str
  | [], cur => if cur.isEmpty = true then [] else [⟨cur.reverse.toArray⟩]
  | c :: r, cur => if Unicode.isSpace c = true then (if cur.isEmpty = true then spl r [] else ⟨cur.reverse.toArray⟩ :: spl r []) else spl r (c :: cur)
theorem spl_eq : ∀ (l : List Nat) (ws : List Str) (cur : List Nat), KWd.fin (l.foldl KWd.step (ws, ⟨cur.reverse.toArray⟩)) = ws ++ spl l cur
  | [], ws, cur => by
    unfold KWd.fin spl
    cases cur with
    | nil => simp [Str.length]
    | cons a r => simp [Str.length]
  | c :: l, ws, cur => by
    rw [List.foldl_cons]
    unfold spl
    by_cases hc : Unicode.isSpace c = true
    · rw [if_pos hc]
      cases cur with
      | nil =>
        have e : KWd.step (ws, ⟨([] : List Nat).reverse.toArray⟩) c = (ws, ⟨([] : List Nat).reverse.toArray⟩) := by simp [KWd.step, hc, Str.length]
        rw [e, spl_eq l ws []]; rfl
      | cons a r =>
        have e : KWd.step (ws, ⟨(a :: r).reverse.toArray⟩) c = (ws ++ [⟨(a :: r).reverse.toArray⟩], ⟨([] : List Nat).reverse.toArray⟩) := by simp [KWd.step, hc, Str.length, Str.empty]
        rw [e, spl_eq l _ []]; simp
    · have hc' : Unicode.isSpace c = false := by simpa using hc
      rw [if_neg hc]
      have e : KWd.step (ws, ⟨cur.reverse.toArray⟩) c = (ws, ⟨(c :: cur).reverse.toArray⟩) := by
        simp only [KWd.step, hc']
        refine congrArg (Prod.mk ws) (Str.ext' ?_)
        rw [Str.cps_append]; simp
      rw [e, spl_eq l ws (c :: cur)]
theorem words_spl (x : Str) : Txt.words x = spl x.cps.toList [] := by
  rw [KWd.words_scan]
  exact spl_eq x.cps.toList [] []
theorem of_lit (l : List Char) : Str.ofString (String.ofList l) = ⟨(l.map Char.toNat).toArray⟩ := by
  rw [Str.ofString_eq_byList]
  simp [Str.ofStringByList, String.toList_ofList]
theorem text_is {x : Str} (c : List Nat) (h : x = Str.ofString (String.ofList (c.map Char.ofNat))) (e : (c.map Char.ofNat).map Char.toNat = c) : x = ⟨c.toArray⟩ := by
  rw [h, of_lit, e]
theorem words_of {x : Str} {c : List Nat} {ws : List Str} (h : x = ⟨c.toArray⟩) (e : spl c [] = ws) : Txt.words x = ws := by
  rw [words_spl, h]; exact e
theorem len_of {x : Str} {c : List Nat} (h : x = ⟨c.toArray⟩) (e : c.length ≤ 1000) : x.length + 2 ≤ sizeLine := by
  rw [h, sizeLine_eq]
  show c.toArray.size + 2 ≤ _
  rw [List.size_toArray]; omega
theorem split_words {prog : Program} {w : World} {A : Around} {E : Value → Shared → Prop} {s : Shared} {h₀ : Heap} {L : Addr} {m : Str → Option Value} {news : List (Addr × Obj)} {x : Str} {t : Tok} {ws : List Str} {Q : Value → Shared → Prop}
    (F : Fr h₀ L s.heap m) (N : News h₀ L s.heap news) (hw : Txt.words x = ws) (hsz : x.length + 2 ≤ sizeLine)
    (h : ∀ D vs h' k, StrsAre vs ws → Fr h₀ L h' m → News h₀ L h' ((D, W.listOf vs.toArray 0) :: news) → (∀ p ∈ news, p.1 < D) → Q (.ref D) { s with heap := h', toks := k }) :
    wpAny (model prog w) A (call (.builtin "str.split") [.str x t]) Q E s :=
  KSpl.split0 F N (fun D l h' k e a F' N' lt => h D (strValues l) h' k (by rw [← hw, ← e]; exact a) F' N' lt) hsz
set_option maxRecDepth 100000
noncomputable def lowS : Str := Str.ofString "space exclam quotedbl numbersign dollar percent ampersand quotesingle parenleft parenright asterisk plus comma hyphen period slash zero one two three four five six seven eight nine colon semicolon less equal greater question at"
noncomputable def lowC : List Nat := [115, 112, 97, 99, 101, 32, 101, 120, 99, 108, 97, 109, 32, 113, 117, 111, 116, 101, 100, 98, 108, 32, 110, 117, 109, 98, 101, 114, 115, 105, 103, 110, 32, 100, 111, 108, 108, 97, 114, 32, 112, 101, 114, 99, 101, 110, 116, 32, 97, 109, 112, 101, 114, 115, 97, 110, 100, 32, 113, 117, 111, 116, 101, 115, 105, 110, 103, 108, 101, 32, 112, 97, 114, 101, 110, 108, 101, 102, 116, 32, 112, 97, 114, 101, 110, 114, 105, 103, 104, 116, 32, 97, 115, 116, 101, 114, 105, 115, 107, 32, 112, 108, 117, 115, 32, 99, 111, 109, 109, 97, 32, 104, 121, 112, 104, 101, 110, 32, 112, 101, 114, 105, 111, 100, 32, 115, 108, 97, 115, 104, 32, 122, 101, 114, 111, 32, 111, 110, 101, 32, 116, 119, 111, 32, 116, 104, 114, 101, 101, 32, 102, 111, 117, 114, 32, 102, 105, 118, 101, 32, 115, 105, 120, 32, 115, 101, 118, 101, 110, 32, 101, 105, 103, 104, 116, 32, 110, 105, 110, 101, 32, 99, 111, 108, 111, 110, 32, 115, 101, 109, 105, 99, 111, 108, 111, 110, 32, 108, 101, 115, 115, 32, 101, 113, 117, 97, 108, 32, 103, 114, 101, 97, 116, 101, 114, 32, 113, 117, 101, 115, 116, 105, 111, 110, 32, 97, 116]
noncomputable def lowL : List Str := [⟨#[115, 112, 97, 99, 101]⟩, ⟨#[101, 120, 99, 108, 97, 109]⟩, ⟨#[113, 117, 111, 116, 101, 100, 98, 108]⟩, ⟨#[110, 117, 109, 98, 101, 114, 115, 105, 103, 110]⟩, ⟨#[100, 111, 108, 108, 97, 114]⟩, ⟨#[112, 101, 114, 99, 101, 110, 116]⟩, ⟨#[97, 109, 112, 101, 114, 115, 97, 110, 100]⟩, ⟨#[113, 117, 111, 116, 101, 115, 105, 110, 103, 108, 101]⟩, ⟨#[112, 97, 114, 101, 110, 108, 101, 102, 116]⟩, ⟨#[112, 97, 114, 101, 110, 114, 105, 103, 104, 116]⟩, ⟨#[97, 115, 116, 101, 114, 105, 115, 107]⟩, ⟨#[112, 108, 117, 115]⟩, ⟨#[99, 111, 109, 109, 97]⟩, ⟨#[104, 121, 112, 104, 101, 110]⟩, ⟨#[112, 101, 114, 105, 111, 100]⟩, ⟨#[115, 108, 97, 115, 104]⟩, ⟨#[122, 101, 114, 111]⟩, ⟨#[111, 110, 101]⟩, ⟨#[116, 119, 111]⟩, ⟨#[116, 104, 114, 101, 101]⟩, ⟨#[102, 111, 117, 114]⟩, ⟨#[102, 105, 118, 101]⟩, ⟨#[115, 105, 120]⟩, ⟨#[115, 101, 118, 101, 110]⟩, ⟨#[101, 105, 103, 104, 116]⟩, ⟨#[110, 105, 110, 101]⟩, ⟨#[99, 111, 108, 111, 110]⟩, ⟨#[115, 101, 109, 105, 99, 111, 108, 111, 110]⟩, ⟨#[108, 101, 115, 115]⟩, ⟨#[101, 113, 117, 97, 108]⟩, ⟨#[103, 114, 101, 97, 116, 101, 114]⟩, ⟨#[113, 117, 101, 115, 116, 105, 111, 110]⟩, ⟨#[97, 116]⟩]
theorem low_c : lowS = ⟨lowC.toArray⟩ := text_is lowC (by kernel_rfl) (by decide +kernel)
theorem low_w : Txt.words lowS = lowL := words_of low_c (by decide +kernel)
theorem low_n : lowS.length + 2 ≤ sizeLine := len_of low_c (by decide +kernel)
theorem low_l : lowL.length = 33 := by decide +kernel
noncomputable def midS : Str := Str.ofString "bracketleft backslash bracketright asciicircum underscore grave"
noncomputable def midC : List Nat := [98, 114, 97, 99, 107, 101, 116, 108, 101, 102, 116, 32, 98, 97, 99, 107, 115, 108, 97, 115, 104, 32, 98, 114, 97, 99, 107, 101, 116, 114, 105, 103, 104, 116, 32, 97, 115, 99, 105, 105, 99, 105, 114, 99, 117, 109, 32, 117, 110, 100, 101, 114, 115, 99, 111, 114, 101, 32, 103, 114, 97, 118, 101]
noncomputable def midL : List Str := [⟨#[98, 114, 97, 99, 107, 101, 116, 108, 101, 102, 116]⟩, ⟨#[98, 97, 99, 107, 115, 108, 97, 115, 104]⟩, ⟨#[98, 114, 97, 99, 107, 101, 116, 114, 105, 103, 104, 116]⟩, ⟨#[97, 115, 99, 105, 105, 99, 105, 114, 99, 117, 109]⟩, ⟨#[117, 110, 100, 101, 114, 115, 99, 111, 114, 101]⟩, ⟨#[103, 114, 97, 118, 101]⟩]
theorem mid_c : midS = ⟨midC.toArray⟩ := text_is midC (by kernel_rfl) (by decide +kernel)
theorem mid_w : Txt.words midS = midL := words_of mid_c (by decide +kernel)
theorem mid_n : midS.length + 2 ≤ sizeLine := len_of mid_c (by decide +kernel)
theorem mid_l : midL.length = 6 := by decide +kernel
noncomputable def highS : Str := Str.ofString "braceleft bar braceright asciitilde"
noncomputable def highC : List Nat := [98, 114, 97, 99, 101, 108, 101, 102, 116, 32, 98, 97, 114, 32, 98, 114, 97, 99, 101, 114, 105, 103, 104, 116, 32, 97, 115, 99, 105, 105, 116, 105, 108, 100, 101]
noncomputable def highL : List Str := [⟨#[98, 114, 97, 99, 101, 108, 101, 102, 116]⟩, ⟨#[98, 97, 114]⟩, ⟨#[98, 114, 97, 99, 101, 114, 105, 103, 104, 116]⟩, ⟨#[97, 115, 99, 105, 105, 116, 105, 108, 100, 101]⟩]
theorem high_c : highS = ⟨highC.toArray⟩ := text_is highC (by kernel_rfl) (by decide +kernel)
theorem high_w : Txt.words highS = highL := words_of high_c (by decide +kernel)
theorem high_n : highS.length + 2 ≤ sizeLine := len_of high_c (by decide +kernel)
theorem high_l : highL.length = 4 := by decide +kernel
noncomputable def latS : Str := Str.ofString "exclamdown cent sterling currency yen brokenbar section dieresis copyright ordfeminine guillemotleft logicalnot hyphen registered macron degree plusminus twosuperior threesuperior acute mu paragraph periodcentered cedilla onesuperior ordmasculine guillemotright onequarter onehalf threequarters questiondown Agrave Aacute Acircumflex Atilde Adieresis Aring AE Ccedilla Egrave Eacute Ecircumflex Edieresis Igrave Iacute Icircumflex Idieresis Eth Ntilde Ograve Oacute Ocircumflex Otilde Odieresis multiply Oslash Ugrave Uacute Ucircumflex Udieresis Yacute Thorn germandbls"
noncomputable def latC : List Nat := [101, 120, 99, 108, 97, 109, 100, 111, 119, 110, 32, 99, 101, 110, 116, 32, 115, 116, 101, 114, 108, 105, 110, 103, 32, 99, 117, 114, 114, 101, 110, 99, 121, 32, 121, 101, 110, 32, 98, 114, 111, 107, 101, 110, 98, 97, 114, 32, 115, 101, 99, 116, 105, 111, 110, 32, 100, 105, 101, 114, 101, 115, 105, 115, 32, 99, 111, 112, 121, 114, 105, 103, 104, 116, 32, 111, 114, 100, 102, 101, 109, 105, 110, 105, 110, 101, 32, 103, 117, 105, 108, 108, 101, 109, 111, 116, 108, 101, 102, 116, 32, 108, 111, 103, 105, 99, 97, 108, 110, 111, 116, 32, 104, 121, 112, 104, 101, 110, 32, 114, 101, 103, 105, 115, 116, 101, 114, 101, 100, 32, 109, 97, 99, 114, 111, 110, 32, 100, 101, 103, 114, 101, 101, 32, 112, 108, 117, 115, 109, 105, 110, 117, 115, 32, 116, 119, 111, 115, 117, 112, 101, 114, 105, 111, 114, 32, 116, 104, 114, 101, 101, 115, 117, 112, 101, 114, 105, 111, 114, 32, 97, 99, 117, 116, 101, 32, 109, 117, 32, 112, 97, 114, 97, 103, 114, 97, 112, 104, 32, 112, 101, 114, 105, 111, 100, 99, 101, 110, 116, 101, 114, 101, 100, 32, 99, 101, 100, 105, 108, 108, 97, 32, 111, 110, 101, 115, 117, 112, 101, 114, 105, 111, 114, 32, 111, 114, 100, 109, 97, 115, 99, 117, 108, 105, 110, 101, 32, 103, 117, 105, 108, 108, 101, 109, 111, 116, 114, 105, 103, 104, 116, 32, 111, 110, 101, 113, 117, 97, 114, 116, 101, 114, 32, 111, 110, 101, 104, 97, 108, 102, 32, 116, 104, 114, 101, 101, 113, 117, 97, 114, 116, 101, 114, 115, 32, 113, 117, 101, 115, 116, 105, 111, 110, 100, 111, 119, 110, 32, 65, 103, 114, 97, 118, 101, 32, 65, 97, 99, 117, 116, 101, 32, 65, 99, 105, 114, 99, 117, 109, 102, 108, 101, 120, 32, 65, 116, 105, 108, 100, 101, 32, 65, 100, 105, 101, 114, 101, 115, 105, 115, 32, 65, 114, 105, 110, 103, 32, 65, 69, 32, 67, 99, 101, 100, 105, 108, 108, 97, 32, 69, 103, 114, 97, 118, 101, 32, 69, 97, 99, 117, 116, 101, 32, 69, 99, 105, 114, 99, 117, 109, 102, 108, 101, 120, 32, 69, 100, 105, 101, 114, 101, 115, 105, 115, 32, 73, 103, 114, 97, 118, 101, 32, 73, 97, 99, 117, 116, 101, 32, 73, 99, 105, 114, 99, 117, 109, 102, 108, 101, 120, 32, 73, 100, 105, 101, 114, 101, 115, 105, 115, 32, 69, 116, 104, 32, 78, 116, 105, 108, 100, 101, 32, 79, 103, 114, 97, 118, 101, 32, 79, 97, 99, 117, 116, 101, 32, 79, 99, 105, 114, 99, 117, 109, 102, 108, 101, 120, 32, 79, 116, 105, 108, 100, 101, 32, 79, 100, 105, 101, 114, 101, 115, 105, 115, 32, 109, 117, 108, 116, 105, 112, 108, 121, 32, 79, 115, 108, 97, 115, 104, 32, 85, 103, 114, 97, 118, 101, 32, 85, 97, 99, 117, 116, 101, 32, 85, 99, 105, 114, 99, 117, 109, 102, 108, 101, 120, 32, 85, 100, 105, 101, 114, 101, 115, 105, 115, 32, 89, 97, 99, 117, 116, 101, 32, 84, 104, 111, 114, 110, 32, 103, 101, 114, 109, 97, 110, 100, 98, 108, 115]
noncomputable def latL : List Str := [⟨#[101, 120, 99, 108, 97, 109, 100, 111, 119, 110]⟩, ⟨#[99, 101, 110, 116]⟩, ⟨#[115, 116, 101, 114, 108, 105, 110, 103]⟩, ⟨#[99, 117, 114, 114, 101, 110, 99, 121]⟩, ⟨#[121, 101, 110]⟩, ⟨#[98, 114, 111, 107, 101, 110, 98, 97, 114]⟩, ⟨#[115, 101, 99, 116, 105, 111, 110]⟩, ⟨#[100, 105, 101, 114, 101, 115, 105, 115]⟩, ⟨#[99, 111, 112, 121, 114, 105, 103, 104, 116]⟩, ⟨#[111, 114, 100, 102, 101, 109, 105, 110, 105, 110, 101]⟩, ⟨#[103, 117, 105, 108, 108, 101, 109, 111, 116, 108, 101, 102, 116]⟩, ⟨#[108, 111, 103, 105, 99, 97, 108, 110, 111, 116]⟩, ⟨#[104, 121, 112, 104, 101, 110]⟩, ⟨#[114, 101, 103, 105, 115, 116, 101, 114, 101, 100]⟩, ⟨#[109, 97, 99, 114, 111, 110]⟩, ⟨#[100, 101, 103, 114, 101, 101]⟩, ⟨#[112, 108, 117, 115, 109, 105, 110, 117, 115]⟩, ⟨#[116, 119, 111, 115, 117, 112, 101, 114, 105, 111, 114]⟩, ⟨#[116, 104, 114, 101, 101, 115, 117, 112, 101, 114, 105, 111, 114]⟩, ⟨#[97, 99, 117, 116, 101]⟩, ⟨#[109, 117]⟩, ⟨#[112, 97, 114, 97, 103, 114, 97, 112, 104]⟩, ⟨#[112, 101, 114, 105, 111, 100, 99, 101, 110, 116, 101, 114, 101, 100]⟩, ⟨#[99, 101, 100, 105, 108, 108, 97]⟩, ⟨#[111, 110, 101, 115, 117, 112, 101, 114, 105, 111, 114]⟩, ⟨#[111, 114, 100, 109, 97, 115, 99, 117, 108, 105, 110, 101]⟩, ⟨#[103, 117, 105, 108, 108, 101, 109, 111, 116, 114, 105, 103, 104, 116]⟩, ⟨#[111, 110, 101, 113, 117, 97, 114, 116, 101, 114]⟩, ⟨#[111, 110, 101, 104, 97, 108, 102]⟩, ⟨#[116, 104, 114, 101, 101, 113, 117, 97, 114, 116, 101, 114, 115]⟩, ⟨#[113, 117, 101, 115, 116, 105, 111, 110, 100, 111, 119, 110]⟩, ⟨#[65, 103, 114, 97, 118, 101]⟩, ⟨#[65, 97, 99, 117, 116, 101]⟩, ⟨#[65, 99, 105, 114, 99, 117, 109, 102, 108, 101, 120]⟩, ⟨#[65, 116, 105, 108, 100, 101]⟩, ⟨#[65, 100, 105, 101, 114, 101, 115, 105, 115]⟩, ⟨#[65, 114, 105, 110, 103]⟩, ⟨#[65, 69]⟩, ⟨#[67, 99, 101, 100, 105, 108, 108, 97]⟩, ⟨#[69, 103, 114, 97, 118, 101]⟩, ⟨#[69, 97, 99, 117, 116, 101]⟩, ⟨#[69, 99, 105, 114, 99, 117, 109, 102, 108, 101, 120]⟩, ⟨#[69, 100, 105, 101, 114, 101, 115, 105, 115]⟩, ⟨#[73, 103, 114, 97, 118, 101]⟩, ⟨#[73, 97, 99, 117, 116, 101]⟩, ⟨#[73, 99, 105, 114, 99, 117, 109, 102, 108, 101, 120]⟩, ⟨#[73, 100, 105, 101, 114, 101, 115, 105, 115]⟩, ⟨#[69, 116, 104]⟩, ⟨#[78, 116, 105, 108, 100, 101]⟩, ⟨#[79, 103, 114, 97, 118, 101]⟩, ⟨#[79, 97, 99, 117, 116, 101]⟩, ⟨#[79, 99, 105, 114, 99, 117, 109, 102, 108, 101, 120]⟩, ⟨#[79, 116, 105, 108, 100, 101]⟩, ⟨#[79, 100, 105, 101, 114, 101, 115, 105, 115]⟩, ⟨#[109, 117, 108, 116, 105, 112, 108, 121]⟩, ⟨#[79, 115, 108, 97, 115, 104]⟩, ⟨#[85, 103, 114, 97, 118, 101]⟩, ⟨#[85, 97, 99, 117, 116, 101]⟩, ⟨#[85, 99, 105, 114, 99, 117, 109, 102, 108, 101, 120]⟩, ⟨#[85, 100, 105, 101, 114, 101, 115, 105, 115]⟩, ⟨#[89, 97, 99, 117, 116, 101]⟩, ⟨#[84, 104, 111, 114, 110]⟩, ⟨#[103, 101, 114, 109, 97, 110, 100, 98, 108, 115]⟩]
theorem lat_c : latS = ⟨latC.toArray⟩ := text_is latC (by kernel_rfl) (by decide +kernel)
theorem lat_w : Txt.words latS = latL := words_of lat_c (by decide +kernel)
theorem lat_n : latS.length + 2 ≤ sizeLine := len_of lat_c (by decide +kernel)
theorem lat_l : latL.length = 63 := by decide +kernel
noncomputable def chrs (a : Int) (n : Nat) : List Str := (rangeKs a n).map fun k => Str.mk #[k.toNat]
theorem chrs_len (a : Int) (n : Nat) : (chrs a n).length = n := by simp [chrs, rangeKs]
noncomputable def loA (x : Str) : Str := ⟨x.cps.map lo1⟩
noncomputable def asciiL : List Str := [⟨#[115, 112, 97, 99, 101]⟩, ⟨#[101, 120, 99, 108, 97, 109]⟩, ⟨#[113, 117, 111, 116, 101, 100, 98, 108]⟩, ⟨#[110, 117, 109, 98, 101, 114, 115, 105, 103, 110]⟩, ⟨#[100, 111, 108, 108, 97, 114]⟩, ⟨#[112, 101, 114, 99, 101, 110, 116]⟩, ⟨#[97, 109, 112, 101, 114, 115, 97, 110, 100]⟩, ⟨#[113, 117, 111, 116, 101, 115, 105, 110, 103, 108, 101]⟩, ⟨#[112, 97, 114, 101, 110, 108, 101, 102, 116]⟩, ⟨#[112, 97, 114, 101, 110, 114, 105, 103, 104, 116]⟩, ⟨#[97, 115, 116, 101, 114, 105, 115, 107]⟩, ⟨#[112, 108, 117, 115]⟩, ⟨#[99, 111, 109, 109, 97]⟩, ⟨#[104, 121, 112, 104, 101, 110]⟩, ⟨#[112, 101, 114, 105, 111, 100]⟩, ⟨#[115, 108, 97, 115, 104]⟩, ⟨#[122, 101, 114, 111]⟩, ⟨#[111, 110, 101]⟩, ⟨#[116, 119, 111]⟩, ⟨#[116, 104, 114, 101, 101]⟩, ⟨#[102, 111, 117, 114]⟩, ⟨#[102, 105, 118, 101]⟩, ⟨#[115, 105, 120]⟩, ⟨#[115, 101, 118, 101, 110]⟩, ⟨#[101, 105, 103, 104, 116]⟩, ⟨#[110, 105, 110, 101]⟩, ⟨#[99, 111, 108, 111, 110]⟩, ⟨#[115, 101, 109, 105, 99, 111, 108, 111, 110]⟩, ⟨#[108, 101, 115, 115]⟩, ⟨#[101, 113, 117, 97, 108]⟩, ⟨#[103, 114, 101, 97, 116, 101, 114]⟩, ⟨#[113, 117, 101, 115, 116, 105, 111, 110]⟩, ⟨#[97, 116]⟩, ⟨#[65]⟩, ⟨#[66]⟩, ⟨#[67]⟩, ⟨#[68]⟩, ⟨#[69]⟩, ⟨#[70]⟩, ⟨#[71]⟩, ⟨#[72]⟩, ⟨#[73]⟩, ⟨#[74]⟩, ⟨#[75]⟩, ⟨#[76]⟩, ⟨#[77]⟩, ⟨#[78]⟩, ⟨#[79]⟩, ⟨#[80]⟩, ⟨#[81]⟩, ⟨#[82]⟩, ⟨#[83]⟩, ⟨#[84]⟩, ⟨#[85]⟩, ⟨#[86]⟩, ⟨#[87]⟩, ⟨#[88]⟩, ⟨#[89]⟩, ⟨#[90]⟩, ⟨#[98, 114, 97, 99, 107, 101, 116, 108, 101, 102, 116]⟩, ⟨#[98, 97, 99, 107, 115, 108, 97, 115, 104]⟩, ⟨#[98, 114, 97, 99, 107, 101, 116, 114, 105, 103, 104, 116]⟩, ⟨#[97, 115, 99, 105, 105, 99, 105, 114, 99, 117, 109]⟩, ⟨#[117, 110, 100, 101, 114, 115, 99, 111, 114, 101]⟩, ⟨#[103, 114, 97, 118, 101]⟩, ⟨#[97]⟩, ⟨#[98]⟩, ⟨#[99]⟩, ⟨#[100]⟩, ⟨#[101]⟩, ⟨#[102]⟩, ⟨#[103]⟩, ⟨#[104]⟩, ⟨#[105]⟩, ⟨#[106]⟩, ⟨#[107]⟩, ⟨#[108]⟩, ⟨#[109]⟩, ⟨#[110]⟩, ⟨#[111]⟩, ⟨#[112]⟩, ⟨#[113]⟩, ⟨#[114]⟩, ⟨#[115]⟩, ⟨#[116]⟩, ⟨#[117]⟩, ⟨#[118]⟩, ⟨#[119]⟩, ⟨#[120]⟩, ⟨#[121]⟩, ⟨#[122]⟩, ⟨#[98, 114, 97, 99, 101, 108, 101, 102, 116]⟩, ⟨#[98, 97, 114]⟩, ⟨#[98, 114, 97, 99, 101, 114, 105, 103, 104, 116]⟩, ⟨#[97, 115, 99, 105, 105, 116, 105, 108, 100, 101]⟩]
theorem ascii_l : (((lowL ++ chrs 65 26) ++ midL) ++ chrs 97 26) ++ highL = asciiL := by decide +kernel
noncomputable def latinL : List Str := [⟨#[101, 120, 99, 108, 97, 109, 100, 111, 119, 110]⟩, ⟨#[99, 101, 110, 116]⟩, ⟨#[115, 116, 101, 114, 108, 105, 110, 103]⟩, ⟨#[99, 117, 114, 114, 101, 110, 99, 121]⟩, ⟨#[121, 101, 110]⟩, ⟨#[98, 114, 111, 107, 101, 110, 98, 97, 114]⟩, ⟨#[115, 101, 99, 116, 105, 111, 110]⟩, ⟨#[100, 105, 101, 114, 101, 115, 105, 115]⟩, ⟨#[99, 111, 112, 121, 114, 105, 103, 104, 116]⟩, ⟨#[111, 114, 100, 102, 101, 109, 105, 110, 105, 110, 101]⟩, ⟨#[103, 117, 105, 108, 108, 101, 109, 111, 116, 108, 101, 102, 116]⟩, ⟨#[108, 111, 103, 105, 99, 97, 108, 110, 111, 116]⟩, ⟨#[104, 121, 112, 104, 101, 110]⟩, ⟨#[114, 101, 103, 105, 115, 116, 101, 114, 101, 100]⟩, ⟨#[109, 97, 99, 114, 111, 110]⟩, ⟨#[100, 101, 103, 114, 101, 101]⟩, ⟨#[112, 108, 117, 115, 109, 105, 110, 117, 115]⟩, ⟨#[116, 119, 111, 115, 117, 112, 101, 114, 105, 111, 114]⟩, ⟨#[116, 104, 114, 101, 101, 115, 117, 112, 101, 114, 105, 111, 114]⟩, ⟨#[97, 99, 117, 116, 101]⟩, ⟨#[109, 117]⟩, ⟨#[112, 97, 114, 97, 103, 114, 97, 112, 104]⟩, ⟨#[112, 101, 114, 105, 111, 100, 99, 101, 110, 116, 101, 114, 101, 100]⟩, ⟨#[99, 101, 100, 105, 108, 108, 97]⟩, ⟨#[111, 110, 101, 115, 117, 112, 101, 114, 105, 111, 114]⟩, ⟨#[111, 114, 100, 109, 97, 115, 99, 117, 108, 105, 110, 101]⟩, ⟨#[103, 117, 105, 108, 108, 101, 109, 111, 116, 114, 105, 103, 104, 116]⟩, ⟨#[111, 110, 101, 113, 117, 97, 114, 116, 101, 114]⟩, ⟨#[111, 110, 101, 104, 97, 108, 102]⟩, ⟨#[116, 104, 114, 101, 101, 113, 117, 97, 114, 116, 101, 114, 115]⟩, ⟨#[113, 117, 101, 115, 116, 105, 111, 110, 100, 111, 119, 110]⟩, ⟨#[65, 103, 114, 97, 118, 101]⟩, ⟨#[65, 97, 99, 117, 116, 101]⟩, ⟨#[65, 99, 105, 114, 99, 117, 109, 102, 108, 101, 120]⟩, ⟨#[65, 116, 105, 108, 100, 101]⟩, ⟨#[65, 100, 105, 101, 114, 101, 115, 105, 115]⟩, ⟨#[65, 114, 105, 110, 103]⟩, ⟨#[65, 69]⟩, ⟨#[67, 99, 101, 100, 105, 108, 108, 97]⟩, ⟨#[69, 103, 114, 97, 118, 101]⟩, ⟨#[69, 97, 99, 117, 116, 101]⟩, ⟨#[69, 99, 105, 114, 99, 117, 109, 102, 108, 101, 120]⟩, ⟨#[69, 100, 105, 101, 114, 101, 115, 105, 115]⟩, ⟨#[73, 103, 114, 97, 118, 101]⟩, ⟨#[73, 97, 99, 117, 116, 101]⟩, ⟨#[73, 99, 105, 114, 99, 117, 109, 102, 108, 101, 120]⟩, ⟨#[73, 100, 105, 101, 114, 101, 115, 105, 115]⟩, ⟨#[69, 116, 104]⟩, ⟨#[78, 116, 105, 108, 100, 101]⟩, ⟨#[79, 103, 114, 97, 118, 101]⟩, ⟨#[79, 97, 99, 117, 116, 101]⟩, ⟨#[79, 99, 105, 114, 99, 117, 109, 102, 108, 101, 120]⟩, ⟨#[79, 116, 105, 108, 100, 101]⟩, ⟨#[79, 100, 105, 101, 114, 101, 115, 105, 115]⟩, ⟨#[109, 117, 108, 116, 105, 112, 108, 121]⟩, ⟨#[79, 115, 108, 97, 115, 104]⟩, ⟨#[85, 103, 114, 97, 118, 101]⟩, ⟨#[85, 97, 99, 117, 116, 101]⟩, ⟨#[85, 99, 105, 114, 99, 117, 109, 102, 108, 101, 120]⟩, ⟨#[85, 100, 105, 101, 114, 101, 115, 105, 115]⟩, ⟨#[89, 97, 99, 117, 116, 101]⟩, ⟨#[84, 104, 111, 114, 110]⟩, ⟨#[103, 101, 114, 109, 97, 110, 100, 98, 108, 115]⟩, ⟨#[97, 103, 114, 97, 118, 101]⟩, ⟨#[97, 97, 99, 117, 116, 101]⟩, ⟨#[97, 99, 105, 114, 99, 117, 109, 102, 108, 101, 120]⟩, ⟨#[97, 116, 105, 108, 100, 101]⟩, ⟨#[97, 100, 105, 101, 114, 101, 115, 105, 115]⟩, ⟨#[97, 114, 105, 110, 103]⟩, ⟨#[97, 101]⟩, ⟨#[99, 99, 101, 100, 105, 108, 108, 97]⟩, ⟨#[101, 103, 114, 97, 118, 101]⟩, ⟨#[101, 97, 99, 117, 116, 101]⟩, ⟨#[101, 99, 105, 114, 99, 117, 109, 102, 108, 101, 120]⟩, ⟨#[101, 100, 105, 101, 114, 101, 115, 105, 115]⟩, ⟨#[105, 103, 114, 97, 118, 101]⟩, ⟨#[105, 97, 99, 117, 116, 101]⟩, ⟨#[105, 99, 105, 114, 99, 117, 109, 102, 108, 101, 120]⟩, ⟨#[105, 100, 105, 101, 114, 101, 115, 105, 115]⟩, ⟨#[101, 116, 104]⟩, ⟨#[110, 116, 105, 108, 100, 101]⟩, ⟨#[111, 103, 114, 97, 118, 101]⟩, ⟨#[111, 97, 99, 117, 116, 101]⟩, ⟨#[111, 99, 105, 114, 99, 117, 109, 102, 108, 101, 120]⟩, ⟨#[111, 116, 105, 108, 100, 101]⟩, ⟨#[111, 100, 105, 101, 114, 101, 115, 105, 115]⟩, ⟨#[100, 105, 118, 105, 100, 101]⟩, ⟨#[111, 115, 108, 97, 115, 104]⟩, ⟨#[117, 103, 114, 97, 118, 101]⟩, ⟨#[117, 97, 99, 117, 116, 101]⟩, ⟨#[117, 99, 105, 114, 99, 117, 109, 102, 108, 101, 120]⟩, ⟨#[117, 100, 105, 101, 114, 101, 115, 105, 115]⟩, ⟨#[121, 97, 99, 117, 116, 101]⟩, ⟨#[116, 104, 111, 114, 110]⟩, ⟨#[121, 100, 105, 101, 114, 101, 115, 105, 115]⟩]
theorem latin_l : (latL ++ (((latL.drop 31).take 31).map loA).set 23 ⟨#[100, 105, 118, 105, 100, 101]⟩) ++ [⟨#[121, 100, 105, 101, 114, 101, 115, 105, 115]⟩] = latinL := by decide +kernel
end Mine
end
section
open PySem PySem.W PyProof.Rows PySem.Calls
namespace Mine
section
variable {prog : Program} {w : World} {A₀ A : Around} {E : Value → Shared → Prop} {s : Shared} {base h₀ : Heap} {outer : List Env} {L : Addr} {m : Str → Option Value} {env : Env} {news : List (Addr × Obj)}
/-- a def with cells is entered; what of the heap is kept in sight is told -/
theorem code_defGC {K : Frag} {p : Program} {loose : List Str} {mean : ExcName → Option Value} {mg mb : Str → Option Value} {R : Result → Shared → Prop} {name qual : Str} {params : Arguments} {body : List Stmt} {scope : Scope} {dV kV doc pm cdv ct oc : Value} {an od : Option Addr} {osl : Array (Option Value)} {f : Addr} {args : Args} {binds : List (Str × Value)}
    (B : Below A₀ base outer h₀) (F : Fr h₀ L s.heap m) (X₀ : K.In h₀) (N : News h₀ L s.heap news) (T : Top p loose mean mg mb h₀) (hA : A.frames = some (env :: outer)) (hf : env.frame = some L) (hke : env.scope.kind = .function)
    (ho : K.lookup f = some ⟨oc, od, .func (fnOf name qual params body scope dV kV doc pm an cdv ct), osl⟩) (hcd : codeIn K cdv qual = true) (hroom : A.depth < recursionLimit)
    (hbind : BindsTo s (fnOf name qual params body scope dV kV doc pm an cdv ct) args binds) (hkind : (binds.all fun y => scope.names.lookup y.1 == some .local || scope.names.lookup y.1 == some .cell) = true)
    (hnd : ((cellsFrom 0 scope.names []).map (·.1)).Nodup)
    (h : ∀ g L' h₁ tk cells, Fr h₀ L g m → Fr g L' h₁ (bindL (envOfC qual scope L' f cdv).kindOf binds fun _ => none) → News g L' h₁ (cells ++ news) →
      CellsAre (bindC (envOfC qual scope L' f cdv).kindOf binds fun _ => none) (cellsFrom (L' + 1) scope.names []) cells → Below A base (env :: outer) g → K.In g → Top p loose mean mg mb g → (∀ p ∈ news, p.1 < L') → GSub s.heap g (news.map (·.1)) →
      wpAny (model prog w) (A.deeper (envOfC qual scope L' f cdv)) (execs body (envOfC qual scope L' f cdv))
        (fun fl s' => LeaveK h₀ L m g R (match fl with | .ret v => v | _ => .none) s')
        (fun e s' => wpAny (model prog w) (A.deeper (envOfC qual scope L' f cdv)) (leaving (envOfC qual scope L' f cdv) e) (fun _ s'' => R (.error e) s'') (fun e' s'' => R (.error e') s'') s')
        { s with heap := h₁, toks := tk })
    (hco : scope.isCoroutine = false) (hgen : scope.isGenerator = false) (hk : scope.kind = .function) : codeAny (model prog w) A (.call (.ref f) args) R s := by
  have XS := X₀.keeps F.keep
  obtain ⟨FG, BG, st, lv⟩ := groundX (R := R) B F N hA hf hke
  refine codeAny_call_function hroom (XS _ _ ho) rfl hco hgen rfl (codeRec_of XS hcd) (hbind _ _ _ _ ?_)
  refine wpAny_newFunctionEnv_cells hk (kindsX hkind _) fun env' he s' x => ?_
  subst he
  refine ⟨(T.nolimit.keeps F.keep).keeps x.toInCall.keep, codeAny_func ?_⟩
  obtain ⟨h₁, tk, rfl, _⟩ := x.done
  have hk₁ := x.toInCall.keep
  obtain ⟨cells, NC, Y⟩ := Cl.news (h₀ := s.heap) (Nat.le_refl _) fun n c hm => ⟨x.cell n c (lookup_of_mem_nodup (cellsFrom_names scope.names 0 (s.heap.objs.size + 1) [] [] rfl ▸ hnd) hm), x.above n c hm⟩
  have FN : Fr (hideAll s.heap (news.map (·.1))) s.heap.objs.size h₁ (bindL (envOfC qual scope s.heap.objs.size f cdv).kindOf binds fun _ => none) :=
    ⟨x.toInCall.ns, fun b o e => hk₁ b o (of_hideAll _ e), Nat.le_of_eq (hideAll_size _ _)⟩
  have NN : News (hideAll s.heap (news.map (·.1))) s.heap.objs.size h₁ (cells ++ news) := by
    intro p hp
    rcases List.mem_append.mp hp with hp | hp
    · refine ⟨(NC p hp).1, (NC p hp).2.1, ?_⟩
      cases q : (hideAll s.heap (news.map (·.1))).get? p.1 with
      | none => rfl
      | some o => have z := of_hideAll _ q; rw [(NC p hp).2.2] at z; cases z
    · exact ⟨hk₁ _ _ (N p hp).1, Nat.ne_of_lt (Heap.lt_size (N p hp).1), hideAll_none _ (List.mem_map_of_mem hp)⟩
  exact wpAny_mono (h _ s.heap.objs.size h₁ tk cells FG FN NN Y BG (X₀.keeps st) (T.keeps st) (fun p hp => Heap.lt_size (N p hp).1) fun b o e n => hideAll_get _ e n) (fun fl s' hl => lv _ _ hl) fun _ _ y => y
end
section
variable {prog : Program} {w : World} {A : Around} {E : Value → Shared → Prop} {s : Shared} {h₀ : Heap} {L : Addr} {m : Str → Option Value} {env : Env}
/-- a comprehension's source, by its steps -/
noncomputable def CompW (prog : Program) (w : World) (A : Around) (h₀ : Heap) (L : Addr) (m : Str → Option Value) (env : Env) (elt : Expr) (x : Str) (scope : Scope) (cl : List (Str × Addr)) (Fin : Shared → List Value → List (Addr × Obj) → Prop) (it : Value) (s₂ : Shared) : Prop :=
  ∃ (I : Addr) (n : Nat) (P : Nat → Value → Prop) (St : Nat → Heap → Prop) (news : List (Addr × Obj)), it = .ref I ∧ Walks prog w A I [I] [I] n P St ∧ n ≤ sizeLine ∧ (∀ i h, St i h → ∃ o, h.get? I = some o) ∧ (∀ i (h h' : Heap) o, St i h → h.get? I = some o → h'.get? I = some o → St i h') ∧ St 0 s₂.heap ∧
    I < s₂.heap.objs.size ∧ L ≠ I ∧ h₀.get? I = none ∧ Fr h₀ L s₂.heap m ∧ News h₀ L s₂.heap news ∧ (∀ p ∈ news, p.1 ≠ I) ∧ LCg.CompRest prog w A h₀ L m env elt x scope cl s₂ (fun _ => True) P (Fin s₂) n 0 [] news
theorem ListComp_W {elt iter : Expr} {x : Str} {px : Pos} {scope : Scope} {cl : List (Str × Addr)} {pos : Pos} {Q : Value → Shared → Prop} (_F₀ : Fr h₀ L s.heap m)
    (hclos : closureFor scope env = pure cl) (hcell : ∀ y ∈ scope.names, y.2 ≠ .cell) (hkind : scope.kind = .function)
    (hnames : ∀ y ∈ scope.names, y.2 = .local → scope.names.lookup y.1 = some .local) (hx : scope.names.lookup x = some .local)
    (h : wpAny (model prog w) A (eval iter env) (fun xv s₁ => wpAny (model prog w) A (pyIter xv) (CompW prog w A h₀ L m env elt x scope cl (fun s₂ => LCg.FinE h₀ L m s₂ Q)) E s₁) E s)
    (hs : ∀ x, foldedSetIterable iter env x = pure x := by intro _; rfl) :
    wpAny (model prog w) A (eval (.ListComp elt [⟨.Name x px, iter, [], 0⟩] scope pos) env) Q E s := by
  rw [eval_ListComp]
  refine wpAny_comprehension_free (use := none) rfl hs hclos hkind hnames (wpAny_mono h (fun xv s₁ h₁ => wpAny_mono h₁ (fun it s₂ h₂ => ?_) fun _ _ e => e) fun _ _ e => e)
  obtain ⟨I, n, P, St, news, rfl, W, hsz, hIo, hSt, hst, hlt, hIL, hI₀, F, N, off, R⟩ := h₂
  refine LCg.block_U W hsz hIo (fun i h h' o nw st e e' _ _ _ => hSt i h h' o st e e') hcell hkind hx hst (fun b hb => by rw [List.mem_singleton.mp hb]; exact hlt) F N hIL hI₀ off trivial R ?_
  intro D C h tk m' ys news' F' N' o1 hn hC₀ hD₀ hCL hDL hCD offC fin
  refine ⟨m', hn, fun h'' hs'' => fin D h'' tk (F'.change hs'' hCL hC₀) (fun p hp => ?_) o1⟩
  refine ⟨hs''.extBut _ _ ?_ (N' p hp).1, (N' p hp).2⟩
  rcases List.mem_cons.mp hp with rfl | hp
  · exact Ne.symm hCD
  · exact offC p hp
theorem Assign_ListComp_W {elt iter : Expr} {x y : Str} {px py : Pos} {scope : Scope} {cl : List (Str × Addr)} {pos spos : Pos} {Q : Flow → Shared → Prop} (_F₀ : Fr h₀ L s.heap m) (hLe : env.locals = L)
    (hsw : swapsWith (.ListComp elt [⟨.Name x px, iter, [], 0⟩] scope pos) (some (.Name y py)) spos.line env = pure true)
    (hclos : closureFor scope env = pure cl) (hcell : ∀ z ∈ scope.names, z.2 ≠ .cell) (hkind : scope.kind = .function)
    (hnames : ∀ z ∈ scope.names, z.2 = .local → scope.names.lookup z.1 = some .local) (hx : scope.names.lookup x = some .local)
    (hy : env.kindOf y = some .local) (hp : (env.scope.kind == .class || (env.scope.kind == .module && env.locals != env.globals)) = false)
    (h : wpAny (model prog w) A (eval iter env) (fun xv s₁ => wpAny (model prog w) A (pyIter xv) (CompW prog w A h₀ L m env elt x scope cl (fun s₂ => LCg.FinA h₀ L m s₂ y Q)) E s₁) E s)
    (hs : ∀ x, foldedSetIterable iter env x = pure x := by intro _; rfl) :
    wpAny (model prog w) A (exec (.Assign [.Name y py] (.ListComp elt [⟨.Name x px, iter, [], 0⟩] scope pos) spos) env) Q E s := by
  subst hLe
  rw [exec_Assign_Name_used _ _ _ _ hsw]
  refine wpAny_bind (wpAny_standAt (wpAny_bind ?_))
  show wpAny _ A (do let _ ← comprehension (.ListComp elt [⟨.Name x px, iter, [], 0⟩] scope pos) scope env _ (newList []) false (eval iter env) (some (assign (.Name y py) env))) _ _ s
  refine wpAny_bind (wpAny_mono (wpAny_comprehension_free (use := some (assign (.Name y py) env)) (Q := fun _ s' => Q .next s') rfl hs hclos hkind hnames
    (wpAny_mono h (fun xv s₁ h₁ => wpAny_mono h₁ (fun it s₂ h₂ => ?_) fun _ _ e => e) fun _ _ e => e)) (fun _ s' hq => wpAny_pure (wpAny_pure hq)) fun _ _ e => e)
  obtain ⟨I, n, P, St, news, rfl, W, hsz, hIo, hSt, hst, hlt, hIL, hI₀, F, N, off, R⟩ := h₂
  refine LCg.block_U W hsz hIo (fun i h h' o nw st e e' _ _ _ => hSt i h h' o st e e') hcell hkind hx hst (fun b hb => by rw [List.mem_singleton.mp hb]; exact hlt) F N hIL hI₀ off trivial R ?_
  intro D C h' tk m' ys news' F' N' o1 hn hC₀ hD₀ hCL hDL hCD offC fin
  show wpAny _ A (assign (.Name y py) env (.ref D)) _ _ _
  refine wpAny_assign_Name (wpAny_storeName_local hy F'.ns (fun h₂ hn₂ hs₂ => ?_) hp)
  have hL₀ : h₀.get? env.locals = none := Heap.get?_none_of_le F'.above
  have F₂ : Fr h₀ env.locals h₂ (fun z => if z = y then some (.ref D) else m z) := ⟨hn₂, fun b o e => hs₂.extBut b o (fun q => by rw [q, hL₀] at e; cases e) (F'.keep b o e), F'.above⟩
  refine ⟨m', hn.sameBut hs₂ hCL, fun h'' hs'' => fin D h'' _ (F₂.change hs'' hCL hC₀) (fun p hp => ?_) o1⟩
  have z : h₂.get? p.1 = some p.2 := hs₂.extBut _ _ (N' p hp).2.1 (N' p hp).1
  refine ⟨hs''.extBut _ _ ?_ z, (N' p hp).2⟩
  rcases List.mem_cons.mp hp with rfl | hp
  · exact Ne.symm hCD
  · exact offC p hp
theorem CompW.bytes {elt : Expr} {x : Str} {scope : Scope} {cl : List (Str × Addr)} {Fin : Shared → List Value → List (Addr × Obj) → Prop} {b : Array UInt8} {t : Tok} {news : List (Addr × Obj)} (hh : A.handled = none) (F : Fr h₀ L s.heap m) (N : News h₀ L s.heap news) (hsz : b.size ≤ sizeLine)
    (h : ∀ g, LCg.CompRest prog w A h₀ L m env elt x scope cl { s with heap := g } (fun _ => True) (fun i v => ∃ (n : UInt8) (u : Tok), b[i]? = some n ∧ v = .int (n.toNat : Int) u) (Fin { s with heap := g }) b.size 0 [] news) :
    wpAny (model prog w) A (pyIter (.bytes b t)) (CompW prog w A h₀ L m env elt x scope cl Fin) E s := by
  refine KBw.pyIter_bytes ?_
  refine ⟨s.heap.objs.size, b.size, _, _, news, rfl, KBw.walks hh s.heap.objs.size b t, hsz, ?_, ?_, ⟨_, Heap.get?_push_size _ rfl, rfl, rfl⟩, ?_, Nat.ne_of_lt F.ns.lt, next_is_new F, F.push _, (fun p hp => ⟨Heap.get?_push_of_some _ (N p hp).1, (N p hp).2⟩), (fun p hp => Nat.ne_of_lt (Heap.lt_size (N p hp).1)), h _⟩
  · rintro i h ⟨o, e, _⟩; exact ⟨o, e⟩
  · rintro i h h' o ⟨o', q, r⟩ e e'
    rw [e] at q; cases q
    exact ⟨o, e', r⟩
  · show _ < (s.heap.push _).objs.size
    rw [Heap.size_push]; exact Nat.lt_succ_self _
theorem CompW.range {elt : Expr} {x : Str} {scope : Scope} {cl : List (Str × Addr)} {Fin : Shared → List Value → List (Addr × Obj) → Prop} {r : Addr} {a b c : Int} {t u v : Tok} {n : Nat} {news : List (Addr × Obj)} (hh : A.handled = none) (F : Fr h₀ L s.heap m) (N : News h₀ L s.heap news)
    (hr : IsRange s.heap r a b c t u v) (hsm : Builtin.Range.small a b c = true) (hn : Builtin.Range.rangeSize a b c = ((n : Nat) : Int)) (hsz : n ≤ sizeLine)
    (h : ∀ g, LCg.CompRest prog w A h₀ L m env elt x scope cl { s with heap := g } (fun _ => True) (fun i v => ∃ t, v = .int (a + (i : Int) * c) t) (Fin { s with heap := g }) n 0 [] news) :
    wpAny (model prog w) A (pyIter (.ref r)) (CompW prog w A h₀ L m env elt x scope cl Fin) E s := by
  refine wpAny_pyIter_range hr hsm ?_
  refine ⟨s.heap.objs.size, n, _, _, news, rfl, Walks.range hh s.heap.objs.size a c n, hsz, ?_, ?_, ?_, ?_, Nat.ne_of_lt F.ns.lt, next_is_new F, F.push _, (fun p hp => ⟨Heap.get?_push_of_some _ (N p hp).1, (N p hp).2⟩), (fun p hp => Nat.ne_of_lt (Heap.lt_size (N p hp).1)), h _⟩
  · intro i h st; exact ⟨_, st⟩
  · intro i h h' o st e e'
    have st' : h.get? s.heap.objs.size = some _ := st
    show h'.get? s.heap.objs.size = some _
    rw [e', ← e]; exact st'
  · show IsRangeIter _ _ _ _ _
    rw [hn]
    simpa using Heap.get?_push_size _ rfl
  · show _ < (s.heap.push _).objs.size
    rw [Heap.size_push]; exact Nat.lt_succ_self _
end
end Mine
end
section
open PySem PySem.W PyProof.Rows
namespace Mine
theorem chr_el {a : Int} {n i : Nat} {r : Str} (hr : (chrs a n)[i]? = some r) : Str.mk #[(a + (i : Int)).toNat] = r := by
  simp only [chrs, rangeKs, List.getElem?_map] at hr
  cases h : (List.range n)[i]? with
  | none => rw [h] at hr; cases hr
  | some j =>
    rw [h] at hr
    have : j = i := by
      rw [List.getElem?_range] at h
      · simpa using h.symm
      · rw [List.getElem?_eq_some_iff] at h; simpa using h.1
    subst this
    simpa using hr
set_option maxRecDepth 100000 in
set_option maxHeartbeats 8000000 in
theorem ascii_c (w : World) : PureC w 8 64 89 [] (NewStrs asciiL) := by
  refine PureC.of ?_
  w_top off
  k_fill
  intro mean mg mb dp un gd env outer A₀ base h₀ L m s Q E X B F T hf hk hd hu ret
  (refine wpAny_call ?_; k_dflt (refine' code_defG (news := []) (binds := []) (by assumption) (by assumption) (by assumption) News.nil (by assumption) rfl (by assumption) (by assumption) ?k6 ?k7 ?k8 ?k9 ?kB ?_ ?c2 ?c3 ?c4 ?c5; (case k6 => k_is); (case k7 => k_is); (case k8 => (dsimp only [AR]; omega)); (case k9 => exact BindsTo.of_eq rfl); (case c5 => decide); (case kB => exact locs rfl); (case c2 => exact rfl); (case c3 => exact rfl); (case c4 => exact rfl); k_whole; intro g' L' h' FG' F' N' B' X' T' kG'; (try dsimp only); (try k_lift B'); (try k_fold)))
  refine posts_var ?_
  intro Qv Ev hQv
  repeat' ((fail_if_success (with_reducible show wpAny _ _ (exec (PySem.Stmt.Assign (_ :: _) (PySem.Expr.ListComp ..) ..) _) _ _ _)); walk_at "cut step")
  k_dflt (refine LCg.Assign_ListComp_U (F₀ := by k_asm) (by rfl) (by with_unfolding_all rfl) (by with_unfolding_all rfl) (by decide) (by rfl) (by decide) (by rfl) (by rfl) (by rfl) ?_)
  repeat' ((fail_if_success (with_reducible show LCg.CompSrc ..)); walk_at "cut step")
  k_dflt (refine LCg.CompSrc.range (by rfl) (by k_asm) (by k_asm) (by assumption) (by decide) (by exact rangeSize_nat _ _) (by exact Nat.le_of_ble_eq_true rfl) ?_)
  intro g'
  refine rest_strs (chrs 65 26) (by rw [chrs_len]; rfl) ?_ ?_
  · intro i v r ys I oI C oC D m₂ h tk E' hi hv hr hC hx F' N' off ne
    obtain ⟨t, rfl⟩ := hv
    have hi' : i < 26 := hi
    simp only [LCg.Off3] at off
    repeat' ((fail_if_success (with_reducible show Mine.TxEl ..)); walk_at "cut step")
    refine TxEl.mk (chr_el hr) rfl rfl
  intro ys hys
  repeat' ((fail_if_success (with_reducible show wpAny _ _ (exec (PySem.Stmt.Assign (_ :: _) (PySem.Expr.ListComp ..) ..) _) _ _ _)); walk_at "cut step")
  k_dflt (refine LCg.Assign_ListComp_U (F₀ := by k_asm) (by rfl) (by with_unfolding_all rfl) (by with_unfolding_all rfl) (by decide) (by rfl) (by decide) (by rfl) (by rfl) (by rfl) ?_)
  repeat' ((fail_if_success (with_reducible show LCg.CompSrc ..)); walk_at "cut step")
  k_dflt (refine LCg.CompSrc.range (by rfl) (by k_asm) (by k_asm) (by assumption) (by decide) (by exact rangeSize_nat _ _) (by exact Nat.le_of_ble_eq_true rfl) ?_)
  intro g'
  refine rest_strs (chrs 97 26) (by rw [chrs_len]; rfl) ?_ ?_
  · intro i v r ys I oI C oC D m₂ h tk E' hi hv hr hC hx F' N' off ne
    obtain ⟨t, rfl⟩ := hv
    have hi' : i < 26 := hi
    simp only [LCg.Off3] at off
    repeat' ((fail_if_success (with_reducible show Mine.TxEl ..)); walk_at "cut step")
    refine TxEl.mk (chr_el hr) rfl rfl
  intro ys2 hys2
  repeat' ((fail_if_success (with_reducible show wpAny _ _ (call (Value.builtin "str.split") _) _ _ _)); walk_at "cut step")
  refine split_words (x := lowS) (by k_asm) (by k_asm) low_w low_n ?_
  intro D1 vs1 h1 k1 a1 F1 N1 l1
  (try k_unfold)
  (try dsimp only)
  repeat' ((fail_if_success (with_reducible show wpAny _ _ (binaryOp Operator.Add (Value.ref _) (Value.ref _)) _ _ _)); walk_at "cut step")
  refine add_strs (by k_asm) (by k_asm) (by is_list) (by is_list) a1 hys (by rw [low_l, chrs_len]; decide) ?_
  intro D3 vs3 h3 a3 F3 N3 l3
  (try dsimp only)
  repeat' ((fail_if_success (with_reducible show wpAny _ _ (call (Value.builtin "str.split") _) _ _ _)); walk_at "cut step")
  refine split_words (x := midS) (by k_asm) (by k_asm) mid_w mid_n ?_
  intro D2 vs2 h2 k2 a2 F2 N2 l2
  (try k_unfold)
  (try dsimp only)
  repeat' ((fail_if_success (with_reducible show wpAny _ _ (binaryOp Operator.Add (Value.ref _) (Value.ref _)) _ _ _)); walk_at "cut step")
  refine add_strs (by k_asm) (by k_asm) (by is_list) (by is_list) a3 a2 (by simp only [List.length_append, low_l, chrs_len, mid_l]; decide) ?_
  intro D4 vs4 h4 a4 F4 N4 l4
  (try dsimp only)
  repeat' ((fail_if_success (with_reducible show wpAny _ _ (binaryOp Operator.Add (Value.ref _) (Value.ref _)) _ _ _)); walk_at "cut step")
  refine add_strs (by k_asm) (by k_asm) (by is_list) (by is_list) a4 hys2 (by simp only [List.length_append, low_l, chrs_len, mid_l]; decide) ?_
  intro D5 vs5 h5 a5 F5 N5 l5
  (try dsimp only)
  repeat' ((fail_if_success (with_reducible show wpAny _ _ (call (Value.builtin "str.split") _) _ _ _)); walk_at "cut step")
  refine split_words (x := highS) (by k_asm) (by k_asm) high_w high_n ?_
  intro D7 vs7 h7 k7 a7 F7 N7 l7
  (try k_unfold)
  (try dsimp only)
  repeat' ((fail_if_success (with_reducible show wpAny _ _ (binaryOp Operator.Add (Value.ref _) (Value.ref _)) _ _ _)); walk_at "cut step")
  refine add_strs (by k_asm) (by k_asm) (by is_list) (by is_list) a5 a7 (by simp only [List.length_append, low_l, chrs_len, mid_l, high_l]; decide) ?_
  intro D6 vs6 h6 a6 F6 N6 l6
  (try dsimp only)
  repeat' ((fail_if_success (with_reducible show LeaveK ..)); walk_at "cut step")
  rename GSub _ _ _ => kG
  refine leaveK_ F6 N6 (fun kF kN => ?_)
  exact ret _ _ _ (fun b o e => F6.keep b o (kG b o e List.not_mem_nil)) ⟨D6, vs6, 0, rfl, fresh_in kG List.not_mem_nil N6 List.mem_cons_self, (N6 _ List.mem_cons_self).1, ascii_l ▸ a6⟩
end Mine
end
section
open PySem PySem.W PyProof.Rows
namespace Mine
theorem strs_run {vs : List Value} {ss : List Str} (h : StrsAre vs ss) (a b : Nat) (hb : b ≤ ss.length) (hab : a ≤ b) : StrsAre (slicePick vs.toArray (some (a : Int)) (some (b : Int)) none).toList ((ss.drop a).take (b - a)) := by
  rw [slicePick_run vs.toArray a b (by rw [List.size_toArray, strs_len h]; exact hb) hab]
  exact StrsAre.take' (StrsAre.drop' h a) (b - a)
theorem strs_set {x : Str} {u : Tok} : ∀ {vs : List Value} {ss : List Str}, StrsAre vs ss → ∀ j : Nat, StrsAre (vs.set j (.str x u)) (ss.set j x)
  | _, _, .nil, _ => .nil
  | _, _, .cons _ _ h, 0 => .cons x u h
  | _, _, .cons i t h, j + 1 => .cons i t (strs_set h j)
theorem lat_ascii : ∀ x ∈ (latL.drop 31).take 31, (∀ c ∈ x.cps.toList, c < 128) ∧ x.cps.size ≤ 100 := by
  have h : ((latL.drop 31).take 31).all (fun x => x.cps.toList.all (fun c => decide (c < 128)) && decide (x.cps.size ≤ 100)) = true := by decide +kernel
  intro x hx
  have q := List.all_eq_true.mp h x hx
  rw [Bool.and_eq_true] at q
  exact ⟨fun c hc => of_decide_eq_true (List.all_eq_true.mp q.1 c hc), of_decide_eq_true q.2⟩
theorem lower_fits : ∀ x ∈ (latL.drop 31).take 31, PySem.Builtin.Str.tooLong (Txt.lower x).length = false := by
  intro x hx
  obtain ⟨h1, h2⟩ := lat_ascii x hx
  rw [lower_ascii h1]
  show decide (_ > sizeLine) = false
  rw [decide_eq_false_iff_not, sizeLine_eq]
  show ¬ (x.cps.map lo1).size > _
  rw [Array.size_map]; omega
set_option maxRecDepth 100000 in
set_option maxHeartbeats 8000000 in
theorem latin_c (w : World) : PureC w 8 64 94 [] (NewStrs latinL) := by
  refine PureC.of ?_
  w_top off
  k_fill
  intro mean mg mb dp un gd env outer A₀ base h₀ L m s Q E X B F T hf hk hd hu ret
  (refine wpAny_call ?_; k_dflt (refine' code_defG (news := []) (binds := []) (by assumption) (by assumption) (by assumption) News.nil (by assumption) rfl (by assumption) (by assumption) ?k6 ?k7 ?k8 ?k9 ?kB ?_ ?c2 ?c3 ?c4 ?c5; (case k6 => k_is); (case k7 => k_is); (case k8 => (dsimp only [AR]; omega)); (case k9 => exact BindsTo.of_eq rfl); (case c5 => decide); (case kB => exact locs rfl); (case c2 => exact rfl); (case c3 => exact rfl); (case c4 => exact rfl); k_whole; intro g' L' h' FG' F' N' B' X' T' kG'; (try dsimp only); (try k_lift B'); (try k_fold)))
  refine posts_var ?_
  intro Qv Ev hQv
  repeat' ((fail_if_success (with_reducible show wpAny _ _ (call (Value.builtin "str.split") _) _ _ _)); walk_at "cut step")
  refine split_words (x := latS) (by k_asm) (by k_asm) lat_w lat_n ?_
  intro D1 vs1 h1 k1 a1 F1 N1 l1
  (try k_unfold)
  (try dsimp only)
  have a2 := strs_run a1 31 62 (by rw [lat_l]; decide) (by decide)
  repeat' ((fail_if_success (with_reducible show wpAny _ _ (exec (PySem.Stmt.Assign (_ :: _) (PySem.Expr.ListComp ..) ..) _) _ _ _)); walk_at "cut step")
  k_dflt (refine LCg.Assign_ListComp_U (F₀ := by k_asm) (by rfl) (by with_unfolding_all rfl) (by with_unfolding_all rfl) (by decide) (by rfl) (by decide) (by rfl) (by rfl) (by rfl) ?_)
  repeat' ((fail_if_success (with_reducible show LCg.CompSrc ..)); walk_at "cut step")
  k_dflt (refine LCg.CompSrc.ledger (by rfl) (by k_asm) (by k_asm) (by k_mem) ?_ ?_)
  · refine Nat.le_trans (slicePick_size_le _ _ _ _) ?_
    rw [List.size_toArray, strs_len a1, lat_l, sizeLine_eq]; decide
  intro g'
  refine rest_strs (((latL.drop 31).take 31).map loA) ?_ ?_ ?_
  · rw [List.length_map, ← strs_len a2]; rfl
  · intro i v r ys I oI C oC D m₂ h tk E' hi hv hr hC hx F' N' off ne
    have hv' := strs_get a2 (i := i) (v := v) (by simpa using hv)
    obtain ⟨s1, t1, rfl, hs1⟩ := hv'
    simp only [LCg.Off3] at off
    repeat' ((fail_if_success (with_reducible show Mine.TxEl ..)); (fail_if_success (with_reducible show wpAny _ _ (call (Value.builtin "str.lower") _) _ _ _)); walk_at "cut step")
    refine SC.lower (lower_fits _ (List.mem_of_getElem? hs1)) ?_
    k_unfold
    (try dsimp only)
    repeat' ((fail_if_success (with_reducible show Mine.TxEl ..)); walk_at "cut step")
    refine TxEl.mk ?_ rfl rfl
    rw [List.getElem?_map, hs1] at hr
    rw [lower_ascii (lat_ascii _ (List.mem_of_getElem? hs1)).1]
    exact Option.some.inj hr
  intro ys hys
  have hl1 := strs_len hys
  clear a2
  have hl2 : ys.length = 31 := by rw [hl1, List.length_map, List.length_take, List.length_drop, lat_l]; rfl
  repeat' ((fail_if_success (with_reducible show wpAny _ _ (setItem _ _ _) _ _ _)); walk_at "cut step")
  refine set_any (by k_asm) (by k_asm) (by k_upd) (by decide) (by rw [hl2]; decide) (by decide) ?_
  intro h' F' N'
  (try dsimp only)
  repeat' ((fail_if_success (with_reducible show wpAny _ _ (binaryOp Operator.Add (Value.ref _) (Value.ref _)) _ _ _)); walk_at "cut step")
  refine add_strs (by k_asm) (by k_asm) (by is_list) (by is_list) a1 (strs_set hys 23) (by simp only [List.length_set, List.length_map, List.length_take, List.length_drop, lat_l]; decide) ?_
  intro D3 vs3 h3 a3 F3 N3 l3
  (try dsimp only)
  repeat' ((fail_if_success (with_reducible show wpAny _ _ (binaryOp Operator.Add (Value.ref _) (Value.ref _)) _ _ _)); walk_at "cut step")
  refine add_strs (by k_asm) (by k_asm) (by is_list) (by is_list) a3 (StrsAre.cons _ _ StrsAre.nil) (by simp only [List.length_append, List.length_set, List.length_map, List.length_take, List.length_drop, lat_l]; decide) ?_
  intro D6 vs6 h6 a6 F6 N6 l6
  (try dsimp only)
  repeat' ((fail_if_success (with_reducible show LeaveK ..)); walk_at "cut step")
  rename GSub _ _ _ => kG
  refine leaveK_ F6 N6 (fun kF kN => ?_)
  refine ret _ _ _ (fun b o e => F6.keep b o (kG b o e List.not_mem_nil)) ⟨D6, vs6, 0, rfl, fresh_in kG List.not_mem_nil N6 List.mem_cons_self, (N6 _ List.mem_cons_self).1, strs_cast a6 ?_⟩
  exact latin_l
end Mine
end
section
open PySem PySem.W PyProof.Rows
namespace Mine
noncomputable def otherL : List Str := [⟨#[69, 117, 114, 111]⟩, ⟨#[113, 117, 111, 116, 101, 115, 105, 110, 103, 108, 98, 97, 115, 101]⟩, ⟨#[102, 108, 111, 114, 105, 110]⟩, ⟨#[113, 117, 111, 116, 101, 100, 98, 108, 98, 97, 115, 101]⟩, ⟨#[101, 108, 108, 105, 112, 115, 105, 115]⟩, ⟨#[100, 97, 103, 103, 101, 114]⟩, ⟨#[100, 97, 103, 103, 101, 114, 100, 98, 108]⟩, ⟨#[99, 105, 114, 99, 117, 109, 102, 108, 101, 120]⟩, ⟨#[112, 101, 114, 116, 104, 111, 117, 115, 97, 110, 100]⟩, ⟨#[83, 99, 97, 114, 111, 110]⟩, ⟨#[103, 117, 105, 108, 115, 105, 110, 103, 108, 108, 101, 102, 116]⟩, ⟨#[79, 69]⟩, ⟨#[90, 99, 97, 114, 111, 110]⟩, ⟨#[113, 117, 111, 116, 101, 108, 101, 102, 116]⟩, ⟨#[113, 117, 111, 116, 101, 114, 105, 103, 104, 116]⟩, ⟨#[113, 117, 111, 116, 101, 100, 98, 108, 108, 101, 102, 116]⟩, ⟨#[113, 117, 111, 116, 101, 100, 98, 108, 114, 105, 103, 104, 116]⟩, ⟨#[98, 117, 108, 108, 101, 116]⟩, ⟨#[101, 110, 100, 97, 115, 104]⟩, ⟨#[101, 109, 100, 97, 115, 104]⟩, ⟨#[116, 105, 108, 100, 101]⟩, ⟨#[116, 114, 97, 100, 101, 109, 97, 114, 107]⟩, ⟨#[115, 99, 97, 114, 111, 110]⟩, ⟨#[103, 117, 105, 108, 115, 105, 110, 103, 108, 114, 105, 103, 104, 116]⟩, ⟨#[111, 101]⟩, ⟨#[122, 99, 97, 114, 111, 110]⟩, ⟨#[89, 100, 105, 101, 114, 101, 115, 105, 115]⟩, ⟨#[102, 114, 97, 99, 116, 105, 111, 110]⟩, ⟨#[102, 105]⟩, ⟨#[102, 108]⟩, ⟨#[98, 114, 101, 118, 101]⟩, ⟨#[100, 111, 116, 97, 99, 99, 101, 110, 116]⟩, ⟨#[114, 105, 110, 103]⟩, ⟨#[104, 117, 110, 103, 97, 114, 117, 109, 108, 97, 117, 116]⟩, ⟨#[111, 103, 111, 110, 101, 107]⟩, ⟨#[99, 97, 114, 111, 110]⟩, ⟨#[76, 115, 108, 97, 115, 104]⟩, ⟨#[108, 115, 108, 97, 115, 104]⟩, ⟨#[100, 111, 116, 108, 101, 115, 115, 105]⟩]

theorem index_strs {prog : Program} {w : World} {A : Around} {E : Value → Shared → Prop} {s : Shared} {l : Addr} {vs : List Value} {ss : List Str} {k : Str} {t : Tok} {Q : Value → Shared → Prop} (hl : s.heap.IsList l vs.toArray) (hi : StrsAre vs ss)
    (hn : ss.length ≤ 1000) (hk : ss.any (· == k) = true) (h : Q (.int (ss.idxOf k : Nat) s.toks) { s with toks := s.toks + 1 }) :
    wpAny (model prog w) A (call (.builtin "list.index") [.ref l, .str k t]) Q E s := by
  obtain ⟨⟨cls, dd, data, sl⟩, ho, hc, n, hd⟩ := id hl
  simp only at hc hd
  subst hc hd
  have hlen := strs_len hi
  have hmem : k ∈ ss := by
    obtain ⟨y, hy, e⟩ := List.any_eq_true.mp hk
    rw [← beq_iff_eq.mp e]; exact hy
  have hj : ss.idxOf k < ss.length := List.idxOf_lt_length_iff.mpr hmem
  have at' : ∀ (j : Nat) (h1 : j < vs.length) (h2 : j < ss.length), isStrOf k vs[j] = (ss[j] == k) := by
    intro j h1 h2
    obtain ⟨y, u, e1, e2⟩ := strs_get hi (i := j) (v := vs[j]) (by simp)
    rw [e1]
    have : ss[j] = y := by
      have q : ss[j]? = some ss[j] := by simp
      rw [q] at e2; exact Option.some.inj e2
    rw [this]; rfl
  refine call_meets PySem.F.slot_list_index ⟨_, ho, rfl⟩ PySem.F.entry_list_index (PySem.F.args_list_index_2 _ _)
    (PySem.SeqAt.list_indexAt l vs.toArray n dd sl (.str k t) (isStrOf k) (ss.idxOf k) (by simpa [hlen] using hj) (by omega) ?_ ?_) ⟨ho, fun y hy => (eq_isStrOf k t hi y (by simpa using hy)).at _ _, h⟩
  · show isStrOf k vs[ss.idxOf k] = true
    rw [at' _ (by omega) hj]
    simp
  · intro j hjs hlt
    show isStrOf k vs[j] = false
    have hjs' : j < vs.length := by simpa using hjs
    rw [at' j hjs' (by omega)]
    have := List.not_of_lt_findIdx (p := (· == k)) (xs := ss) (i := j) hlt
    simpa using this
theorem ite_no {c : Prop} [Decidable c] {a b : Prop} (h : ¬ c) (hb : b) : if c then a else b := by rw [if_neg h]; exact hb
theorem ite_yes {c : Prop} [Decidable c] {a b : Prop} (h : c) (ha : a) : if c then a else b := by rw [if_pos h]; exact ha
noncomputable def kcode (x : Str) : Int := if asciiL.any (· == x) = true then 32 + (asciiL.idxOf x : Nat) else if latinL.any (· == x) = true then 161 + (latinL.idxOf x : Nat) else -1
theorem kcode_a {x : Str} (ha : asciiL.any (· == x) = true) : kcode x = 32 + (asciiL.idxOf x : Nat) := by unfold kcode; rw [if_pos ha]
theorem kcode_b {x : Str} (ha : ¬ asciiL.any (· == x) = true) (hb : latinL.any (· == x) = true) : kcode x = 161 + (latinL.idxOf x : Nat) := by unfold kcode; rw [if_neg ha, if_pos hb]
theorem kcode_n {x : Str} (ha : ¬ asciiL.any (· == x) = true) (hb : ¬ latinL.any (· == x) = true) : kcode x = -1 := by unfold kcode; rw [if_neg ha, if_neg hb]
set_option maxRecDepth 100000 in
set_option maxHeartbeats 8000000 in
theorem known_c (w : World) (x : Str) (t : Tok) (hno : otherL.any (fun k => decide (x = k)) = false) : PureC w 16 128 115 [.str x t] (fun _ r _ => ∃ t', r = .int (kcode x) t') := by
  refine PureC.of ?_
  w_top off
  k_fill
  intro mean mg mb dp un gd env outer A₀ base h₀ L m s Q E X B F T hf hk hd hu ret
  (refine wpAny_call ?_; k_dflt (refine' code_defG (news := []) (binds := [(Str.ofString "name", .str x t)]) (by assumption) (by assumption) (by assumption) News.nil (by assumption) rfl (by assumption) (by assumption) ?k6 ?k7 ?k8 ?k9 ?kB ?_ ?c2 ?c3 ?c4 ?c5; (case k6 => k_is); (case k7 => k_is); (case k8 => (dsimp only [AR]; omega)); (case k9 => exact BindsTo.of_eq rfl); (case c5 => decide); (case kB => exact locs rfl); (case c2 => exact rfl); (case c3 => exact rfl); (case c4 => exact rfl); k_whole; intro g' L' h' FG' F' N' B' X' T' kG'; (try dsimp only); (try k_lift B'); (try k_fold)))
  refine posts_var ?_
  intro Qv Ev hQv
  repeat' ((fail_if_success (with_reducible show ite _ _ _)); walk_at "cut step")
  refine ite_no (fun e => absurd (show otherL.any (fun k => decide (x = k)) = true from e) (by rw [hno]; decide)) ?_
  repeat' ((fail_if_success (with_reducible show wpAny _ _ (call (Value.ref _) _) _ _ _)); walk_at "cut step")
  refine (ascii_c w).use (by k_asm) (by k_asm) (by k_asm) (by k_asm) (by k_asm) rfl rfl rfl rfl ?_ ?_ ?_
  · show dp + 1 + 8 < _; omega
  · show un + 3 + 64 < _; omega
  rintro r h1 tk1 F1 N1 k1 ⟨D, vs, n, rfl, hD0, hD, hvs⟩
  have N2 := news_fresh (by k_asm) hD0 hD N1
  clear N1
  (try k_unfold)
  (try dsimp only)
  repeat' ((fail_if_success (with_reducible show wpAny _ _ (compareOp CmpOp.In _ _) _ _ _)); walk_at "cut step")
  refine in_list_strs (by is_list) hvs ?_
  repeat' ((fail_if_success (with_reducible show ite _ _ _)); walk_at "cut step")
  by_cases ha : asciiL.any (· == x) = true
  · refine ite_yes ha ?_
    repeat' ((fail_if_success (with_reducible show wpAny _ _ (call (Value.builtin "list.index") _) _ _ _)); walk_at "cut step")
    refine index_strs (by is_list) hvs (by decide) ha ?_
    (try k_unfold)
    (try dsimp only)
    repeat' ((fail_if_success (with_reducible show LeaveK ..)); walk_at "cut step")
    rename Fr _ _ _ _ => F9
    rename News _ _ _ _ => N9
    rename GSub _ _ _ => kG
    refine leaveK_ F9 N9 (fun kF kN => ?_)
    show Q _ _
    refine ret _ _ _ (fun b o e => F9.keep b o (kG b o e List.not_mem_nil)) ⟨_, congrArg (fun c => Value.int c _) (kcode_a ha).symm⟩
  refine ite_no ha ?_
  repeat' ((fail_if_success (with_reducible show wpAny _ _ (call (Value.ref _) _) _ _ _)); walk_at "cut step")
  refine (latin_c w).use (by k_asm) (by k_asm) (by k_asm) (by k_asm) (by k_asm) rfl rfl rfl rfl ?_ ?_ ?_
  · show dp + 1 + 8 < _; omega
  · show un + 3 + 64 < _; omega
  rintro r h2 tk2 F2 N3 k2 ⟨D2, vs2, n2, rfl, hD3, hD4, hvs2⟩
  have N4 := news_fresh (by k_asm) hD3 hD4 N3
  clear N3
  (try k_unfold)
  (try dsimp only)
  repeat' ((fail_if_success (with_reducible show wpAny _ _ (compareOp CmpOp.In _ _) _ _ _)); walk_at "cut step")
  refine in_list_strs (by is_list) hvs2 ?_
  repeat' ((fail_if_success (with_reducible show ite _ _ _)); walk_at "cut step")
  by_cases hb : latinL.any (· == x) = true
  · refine ite_yes hb ?_
    repeat' ((fail_if_success (with_reducible show wpAny _ _ (call (Value.builtin "list.index") _) _ _ _)); walk_at "cut step")
    refine index_strs (by is_list) hvs2 (by decide) hb ?_
    (try k_unfold)
    (try dsimp only)
    repeat' ((fail_if_success (with_reducible show LeaveK ..)); walk_at "cut step")
    rename Fr _ _ _ _ => F9
    rename News _ _ _ _ => N9
    rename GSub _ _ _ => kG
    refine leaveK_ F9 N9 (fun kF kN => ?_)
    show Q _ _
    refine ret _ _ _ (fun b o e => F9.keep b o (kG b o e List.not_mem_nil)) ⟨_, congrArg (fun c => Value.int c _) (kcode_b ha hb).symm⟩
  refine ite_no hb ?_
  repeat' ((fail_if_success (with_reducible show LeaveK ..)); walk_at "cut step")
  rename Fr _ _ _ _ => F9
  rename News _ _ _ _ => N9
  rename GSub _ _ _ => kG
  refine leaveK_ F9 N9 (fun kF kN => ?_)
  show Q _ _
  refine ret _ _ _ (fun b o e => F9.keep b o (kG b o e List.not_mem_nil)) ⟨_, congrArg (fun c => Value.int c _) (kcode_n ha hb).symm⟩
end Mine
end
section
open PySem PySem.W PyProof.Rows
namespace Mine
noncomputable def hexD (c : Nat) : Nat := if c < 58 then c - 48 else c - 55
noncomputable def hexV (l : List Nat) : Int := l.foldl (fun a c => 16 * a + (hexD c : Nat)) 0
noncomputable def hexC : List Nat := [48, 49, 50, 51, 52, 53, 54, 55, 56, 57, 65, 66, 67, 68, 69, 70]
theorem hex_occ : ∀ n ∈ hexC, PySem.Builtin.Str.occurrences (Str.ofString "0123456789ABCDEF") ⟨#[n]⟩ 0 (Str.ofString "0123456789ABCDEF").length 1 = [hexD n] := by decide +kernel
set_option maxRecDepth 100000 in
set_option maxHeartbeats 8000000 in
theorem hex_c (w : World) (x : Str) (t : Tok) (hx : ∀ c ∈ x.cps.toList, c ∈ hexC) : PureC w 8 64 101 [.str x t] (fun _ r _ => ∃ t', r = .int (hexV x.cps.toList) t') := by
  refine PureC.of ?_
  w_top off
  k_fill
  intro mean mg mb dp un gd env outer A₀ base h₀ L m s Q E X B F T hf hk hd hu ret
  (refine wpAny_call ?_; k_dflt (refine' code_defG (news := []) (binds := [(Str.ofString "signs", .str x t)]) (by assumption) (by assumption) (by assumption) News.nil (by assumption) rfl (by assumption) (by assumption) ?k6 ?k7 ?k8 ?k9 ?kB ?_ ?c2 ?c3 ?c4 ?c5; (case k6 => k_is); (case k7 => k_is); (case k8 => (dsimp only [AR]; omega)); (case k9 => exact BindsTo.of_eq rfl); (case c5 => decide); (case kB => exact locs rfl); (case c2 => exact rfl); (case c3 => exact rfl); (case c4 => exact rfl); k_whole; intro g' L' h' FG' F' N' B' X' T' kG'; (try dsimp only); (try k_lift B'); (try k_fold)))
  repeat' ((fail_if_success (with_reducible show wpAny _ _ (exec (PySem.Stmt.For ..) _) _ _ _)); walk_at "one step")
  (rename Fr _ _ _ _ => lF')
  (with_unfolding_all refine' For_invVF lF' ?k1 ?k2 ?_; (case k1 => exact rfl); (case k2 => exact rfl); k_whole)
  repeat' ((fail_if_success (with_reducible show wpAny _ _ (pyIter _) _ _ _)); walk_at "one step")
  refine wpAny_pyIter_str fun o St hW hst => ?_
  refine loop_invN (fun i m nx => nx = [] ∧ ∃ t, m (Str.ofString "worth") = some (.int (hexV (x.cps.toList.take i)) t)) (hW _ rfl) ?_ ?_ ?_ ?_ hst (Fr.push lF' _) News.nil ⟨rfl, _, by k_dflt exact rfl⟩ ?_ ?_
  · intro hm
    exact absurd lF'.ns.lt ((List.mem_singleton.mp hm) ▸ Nat.lt_irrefl _)
  · intro b' hb
    rw [List.mem_singleton.mp hb]
    exact next_is_new lF'
  · intro p hp; cases hp
  · intro p hp; cases hp
  · rintro i v m₁ nx h tk own hi ⟨n, u, hn, rfl⟩ _ hoff ⟨rfl, t1, hw⟩ F₁ N₁
    (try k_fold)
    have hn' : x.cps.toList[i]? = some n := by simpa using hn
    have hm := hx n (List.mem_of_getElem? hn')
    have hs : hexV (x.cps.toList.take (i + 1)) = 16 * hexV (x.cps.toList.take i) + (hexD n : Nat) := by
      rw [List.take_add_one, hn']; simp [hexV, List.foldl_append]
    generalize hV : hexV (x.cps.toList.take i) = V at hw hs
    rw [map_has hw] at F₁
    repeat' ((fail_if_success (with_reducible show ite _ _ _)); walk_at "one step")
    refine ite_no (by rw [hex_occ n hm]; simp) ?_
    repeat' ((fail_if_success (with_reducible show wpAny _ _ (call (Value.builtin "str.index") _) _ _ _)); walk_at "one step")
    refine SC.index (hex_occ n hm) ?_
    (try k_unfold)
    (try dsimp only)
    repeat' ((fail_if_success (with_reducible show InvEndN ..)); walk_at "one step")
    rename Fr _ _ _ _ => F9
    rename News _ _ _ _ => N9
    refine InvEndN.intro (nx := []) F9 N9 ⟨rfl, ?_⟩ rfl (fun _ h => nomatch h) (by simpa using fun p hp => hp)
    rw [hs]
    refine ⟨?tt, ?hh⟩
    case hh => k_dflt exact rfl
  · rintro m₁ nx h tk ⟨rfl, t1, hw⟩ F₁ N₁
    rw [show x.cps.size = x.cps.toList.length from (Array.length_toList).symm, List.take_length] at hw
    rw [map_has hw] at F₁
    (try dsimp only)
    repeat' ((fail_if_success (with_reducible show LeaveK ..)); walk_at "one step")
    rename Fr _ _ _ _ => F9
    rename News _ _ _ _ => N9
    rename GSub _ _ _ => kG
    refine leaveK_ F9 N9 (fun kF kN => ?_)
    show Q _ _
    exact ret _ _ _ (fun b o e => F9.keep b o (kG b o e List.not_mem_nil)) ⟨_, rfl⟩
end Mine
end
section
open PySem PySem.W PyProof.Rows
namespace Mine
set_option maxRecDepth 100000 in
set_option maxHeartbeats 8000000 in
theorem sign_c (w : World) (c : Int) (t : Tok) (h0 : 0 ≤ c) (h1 : c ≤ 1114111) (h2 : c < 55296 ∨ 57343 < c) : PureC w 8 64 108 [.int c t] (fun _ r _ => r = .bool true) := by
  refine PureC.of ?_
  w_top off
  k_fill
  intro mean mg mb dp un gd env outer A₀ base h₀ L m s Q E X B F T hf hk hd hu ret
  (refine wpAny_call ?_; k_dflt (refine' code_defG (news := []) (binds := [(Str.ofString "code", .int c t)]) (by assumption) (by assumption) (by assumption) News.nil (by assumption) rfl (by assumption) (by assumption) ?k6 ?k7 ?k8 ?k9 ?kB ?_ ?c2 ?c3 ?c4 ?c5; (case k6 => k_is); (case k7 => k_is); (case k8 => (dsimp only [AR]; omega)); (case k9 => exact BindsTo.of_eq rfl); (case c5 => decide); (case kB => exact locs rfl); (case c2 => exact rfl); (case c3 => exact rfl); (case c4 => exact rfl); k_whole; intro g' L' h' FG' F' N' B' X' T' kG'; (try dsimp only); (try k_lift B'); (try k_fold)))
  repeat' ((fail_if_success (with_reducible show LeaveK ..)); walk_at "one step")
  all_goals (
    rename Fr _ _ _ _ => F9
    rename News _ _ _ _ => N9
    rename GSub _ _ _ => kG
    refine leaveK_ F9 N9 (fun kF kN => ?_)
    show Q _ _
    refine ret _ _ _ (fun b o e => F9.keep b o (kG b o e List.not_mem_nil)) ?_
    refine congrArg Value.bool ?_
    rw [decide_eq_false (by omega)]
    rfl)
theorem part_a (w : World) (x : Str) (t : Tok) (c : Int) (K : PureC w 16 128 115 [.str x t] (fun _ r _ => ∃ t', r = .int c t')) (h0 : 0 ≤ c) (h1 : c ≤ 1114111) :
    PureC w 24 192 120 [.str x t] (fun _ r _ => ∃ t', r = .str ⟨#[c.toNat]⟩ t') := by
  refine PureC.of ?_
  w_top off
  k_fill
  intro mean mg mb dp un gd env outer A₀ base h₀ L m s Q E X B F T hf hk hd hu ret
  (refine wpAny_call ?_; k_dflt (refine' code_defGC (news := []) (binds := [(Str.ofString "part", .str x t)]) (by assumption) (by assumption) (by assumption) News.nil (by assumption) rfl (by assumption) (by assumption) ?k6 ?k7 ?k8 ?k9 ?kB ?kD ?_ ?c2 ?c3 ?c4; (case k6 => k_is); (case k7 => k_is); (case k8 => (dsimp only [AR]; omega)); (case k9 => exact BindsTo.of_eq rfl); (case kB => exact rfl); (case kD => decide +kernel); (case c2 => exact rfl); (case c3 => exact rfl); (case c4 => exact rfl); k_whole; intro g' L' h' tk' cells' FG' F' N' Y' B' X' T' l1 kG'; clear l1; k_cells Y'; (try simp only [List.cons_append, List.nil_append] at N'); (try dsimp only); (try k_lift B'); (try k_fold)))
  repeat' ((fail_if_success (with_reducible show wpAny _ _ (call (Value.ref _) _) _ _ _)); walk_at "one step")
  refine K.use (by k_asm) (by k_asm) (by k_asm) (by k_asm) (by k_asm) rfl rfl rfl rfl ?_ ?_ ?_
  · show dp + 1 + 16 < _; omega
  · show un + 3 + 128 < _; omega
  rintro r h1 tk1 F1 N1 k1 ⟨t1, rfl⟩
  (try k_unfold)
  (try dsimp only)
  repeat' ((fail_if_success (with_reducible show LeaveK ..)); (fail_if_success (with_reducible show ite _ _ _)); walk_at "one step")
  refine ite_yes (decide_eq_true h0) ?_
  repeat' ((fail_if_success (with_reducible show LeaveK ..)); walk_at "one step")
  rename Fr _ _ _ _ => F9
  rename News _ _ _ _ => N9
  rename GSub _ _ _ => kG
  refine leaveK_ F9 N9 (fun kF kN => ?_)
  show Q _ _
  exact ret _ _ _ (fun b o e => F9.keep b o (kG b o e List.not_mem_nil)) ⟨_, rfl⟩
set_option maxRecDepth 100000 in
set_option maxHeartbeats 8000000 in
theorem part_what (w : World) (t : Tok) (K : PureC w 16 128 115 [.str (Str.ofString "what") t] (fun _ r _ => ∃ t', r = .int (-1) t')) :
    PureC w 24 192 120 [.str (Str.ofString "what") t] (fun _ r _ => ∃ t', r = .str (Str.ofString "") t') := by
  refine PureC.of ?_
  w_top off
  k_fill
  intro mean mg mb dp un gd env outer A₀ base h₀ L m s Q E X B F T hf hk hd hu ret
  (refine wpAny_call ?_; k_dflt (refine' code_defGC (news := []) (binds := [(Str.ofString "part", .str (Str.ofString "what") t)]) (by assumption) (by assumption) (by assumption) News.nil (by assumption) rfl (by assumption) (by assumption) ?k6 ?k7 ?k8 ?k9 ?kB ?kD ?_ ?c2 ?c3 ?c4; (case k6 => k_is); (case k7 => k_is); (case k8 => (dsimp only [AR]; omega)); (case k9 => exact BindsTo.of_eq rfl); (case kB => exact rfl); (case kD => decide +kernel); (case c2 => exact rfl); (case c3 => exact rfl); (case c4 => exact rfl); k_whole; intro g' L' h' tk' cells' FG' F' N' Y' B' X' T' l1 kG'; clear l1; k_cells Y'; (try simp only [List.cons_append, List.nil_append] at N'); (try dsimp only); (try k_lift B'); (try k_fold)))
  repeat' ((fail_if_success (with_reducible show wpAny _ _ (call (Value.ref _) _) _ _ _)); walk_at "one step")
  refine K.use (by k_asm) (by k_asm) (by k_asm) (by k_asm) (by k_asm) rfl rfl rfl rfl ?_ ?_ ?_
  · show dp + 1 + 16 < _; omega
  · show un + 3 + 128 < _; omega
  rintro r h1 tk1 F1 N1 k1 ⟨t1, rfl⟩
  (try k_unfold)
  (try dsimp only)
  repeat' ((fail_if_success (with_reducible show LeaveK ..)); walk_at "one step")
  rename Fr _ _ _ _ => F9
  rename News _ _ _ _ => N9
  rename GSub _ _ _ => kG
  refine leaveK_ F9 N9 (fun kF kN => ?_)
  show Q _ _
  exact ret _ _ _ (fun b o e => F9.keep b o (kG b o e List.not_mem_nil)) ⟨_, rfl⟩
set_option maxRecDepth 100000 in
set_option maxHeartbeats 8000000 in
theorem part_nil (w : World) (t : Tok) (K : PureC w 16 128 115 [.str (Str.ofString "") t] (fun _ r _ => ∃ t', r = .int (-1) t')) :
    PureC w 24 192 120 [.str (Str.ofString "") t] (fun _ r _ => ∃ t', r = .str (Str.ofString "") t') := by
  refine PureC.of ?_
  w_top off
  k_fill
  intro mean mg mb dp un gd env outer A₀ base h₀ L m s Q E X B F T hf hk hd hu ret
  (refine wpAny_call ?_; k_dflt (refine' code_defGC (news := []) (binds := [(Str.ofString "part", .str (Str.ofString "") t)]) (by assumption) (by assumption) (by assumption) News.nil (by assumption) rfl (by assumption) (by assumption) ?k6 ?k7 ?k8 ?k9 ?kB ?kD ?_ ?c2 ?c3 ?c4; (case k6 => k_is); (case k7 => k_is); (case k8 => (dsimp only [AR]; omega)); (case k9 => exact BindsTo.of_eq rfl); (case kB => exact rfl); (case kD => decide +kernel); (case c2 => exact rfl); (case c3 => exact rfl); (case c4 => exact rfl); k_whole; intro g' L' h' tk' cells' FG' F' N' Y' B' X' T' l1 kG'; clear l1; k_cells Y'; (try simp only [List.cons_append, List.nil_append] at N'); (try dsimp only); (try k_lift B'); (try k_fold)))
  repeat' ((fail_if_success (with_reducible show wpAny _ _ (call (Value.ref _) _) _ _ _)); walk_at "one step")
  refine K.use (by k_asm) (by k_asm) (by k_asm) (by k_asm) (by k_asm) rfl rfl rfl rfl ?_ ?_ ?_
  · show dp + 1 + 16 < _; omega
  · show un + 3 + 128 < _; omega
  rintro r h1 tk1 F1 N1 k1 ⟨t1, rfl⟩
  (try k_unfold)
  (try dsimp only)
  repeat' ((fail_if_success (with_reducible show LeaveK ..)); walk_at "one step")
  rename Fr _ _ _ _ => F9
  rename News _ _ _ _ => N9
  rename GSub _ _ _ => kG
  refine leaveK_ F9 N9 (fun kF kN => ?_)
  show Q _ _
  exact ret _ _ _ (fun b o e => F9.keep b o (kG b o e List.not_mem_nil)) ⟨_, rfl⟩
end Mine
end
section
open PySem PySem.W PyProof.Rows
namespace Mine
set_option maxRecDepth 100000 in
set_option maxHeartbeats 8000000 in
theorem part_u1 (w : World) (t : Tok) (K : PureC w 16 128 115 [.str (Str.ofString "u1F600") t] (fun _ r _ => ∃ t', r = .int (-1) t')) :
    PureC w 24 192 120 [.str (Str.ofString "u1F600") t] (fun _ r _ => ∃ t', r = .str ⟨#[128512]⟩ t') := by
  refine PureC.of ?_
  w_top off
  k_fill
  intro mean mg mb dp un gd env outer A₀ base h₀ L m s Q E X B F T hf hk hd hu ret
  (refine wpAny_call ?_; k_dflt (refine' code_defGC (news := []) (binds := [(Str.ofString "part", .str (Str.ofString "u1F600") t)]) (by assumption) (by assumption) (by assumption) News.nil (by assumption) rfl (by assumption) (by assumption) ?k6 ?k7 ?k8 ?k9 ?kB ?kD ?_ ?c2 ?c3 ?c4; (case k6 => k_is); (case k7 => k_is); (case k8 => (dsimp only [AR]; omega)); (case k9 => exact BindsTo.of_eq rfl); (case kB => exact rfl); (case kD => decide +kernel); (case c2 => exact rfl); (case c3 => exact rfl); (case c4 => exact rfl); k_whole; intro g' L' h' tk' cells' FG' F' N' Y' B' X' T' l1 kG'; clear l1; k_cells Y'; (try simp only [List.cons_append, List.nil_append] at N'); (try dsimp only); (try k_lift B'); (try k_fold)))
  repeat' ((fail_if_success (with_reducible show wpAny _ _ (call (Value.ref _) _) _ _ _)); walk_at "one step")
  refine K.use (by k_asm) (by k_asm) (by k_asm) (by k_asm) (by k_asm) rfl rfl rfl rfl ?_ ?_ ?_
  · show dp + 1 + 16 < _; omega
  · show un + 3 + 128 < _; omega
  rintro r h1 tk1 F1 N1 k1 ⟨t1, rfl⟩
  (try k_unfold)
  (try dsimp only)
  repeat' ((fail_if_success (with_reducible show LeaveK ..)); (fail_if_success (with_reducible show wpAny _ _ (call (Value.ref _) _) _ _ _)); walk_at "one step")
  refine (hex_c w (Txt.slice (Str.ofString "u1F600") (some 1) none) _ (by decide +kernel)).use (by k_asm) (by k_asm) (by k_asm) (by k_asm) (by k_asm) rfl rfl rfl rfl ?_ ?_ ?_
  · show dp + 1 + 8 < _; omega
  · show un + 3 + 64 < _; omega
  rintro r h2 tk2 F2 N2 k2 ⟨t2, e2⟩
  rw [show hexV (Txt.slice (Str.ofString "u1F600") (some 1) none).cps.toList = 128512 from by decide +kernel] at e2
  subst e2
  (try k_unfold)
  (try dsimp only)
  repeat' ((fail_if_success (with_reducible show LeaveK ..)); (fail_if_success (with_reducible show wpAny _ _ (call (Value.ref _) _) _ _ _)); walk_at "one step")
  refine (sign_c w 128512 _ (by decide) (by decide) (by decide)).use (by k_asm) (by k_asm) (by k_asm) (by k_asm) (by k_asm) rfl rfl rfl rfl ?_ ?_ ?_
  · show dp + 1 + 8 < _; omega
  · show un + 3 + 64 < _; omega
  rintro r h3 tk3 F3 N3 k3 rfl
  (try k_unfold)
  (try dsimp only)
  repeat' ((fail_if_success (with_reducible show LeaveK ..)); walk_at "one step")
  rename Fr _ _ _ _ => F9
  rename News _ _ _ _ => N9
  rename GSub _ _ _ => kG
  refine leaveK_ F9 N9 (fun kF kN => ?_)
  show Q _ _
  exact ret _ _ _ (fun b o e => F9.keep b o (kG b o e List.not_mem_nil)) ⟨_, rfl⟩
set_option maxRecDepth 100000 in
set_option maxHeartbeats 8000000 in
theorem part_uni (w : World) (t : Tok) (K : PureC w 16 128 115 [.str (Str.ofString "uni04160041") t] (fun _ r _ => ∃ t', r = .int (-1) t')) :
    PureC w 24 192 120 [.str (Str.ofString "uni04160041") t] (fun _ r _ => ∃ t', r = .str (Str.ofString "ЖA") t') := by
  refine PureC.of ?_
  w_top off
  k_fill
  intro mean mg mb dp un gd env outer A₀ base h₀ L m s Q E X B F T hf hk hd hu ret
  (refine wpAny_call ?_; k_dflt (refine' code_defGC (news := []) (binds := [(Str.ofString "part", .str (Str.ofString "uni04160041") t)]) (by assumption) (by assumption) (by assumption) News.nil (by assumption) rfl (by assumption) (by assumption) ?k6 ?k7 ?k8 ?k9 ?kB ?kD ?_ ?c2 ?c3 ?c4; (case k6 => k_is); (case k7 => k_is); (case k8 => (dsimp only [AR]; omega)); (case k9 => exact BindsTo.of_eq rfl); (case kB => exact rfl); (case kD => decide +kernel); (case c2 => exact rfl); (case c3 => exact rfl); (case c4 => exact rfl); k_whole; intro g' L' h' tk' cells' FG' F' N' Y' B' X' T' l1 kG'; clear l1; k_cells Y'; (try simp only [List.cons_append, List.nil_append] at N'); (try dsimp only); (try k_lift B'); (try k_fold)))
  repeat' ((fail_if_success (with_reducible show wpAny _ _ (call (Value.ref _) _) _ _ _)); walk_at "one step")
  refine K.use (by k_asm) (by k_asm) (by k_asm) (by k_asm) (by k_asm) rfl rfl rfl rfl ?_ ?_ ?_
  · show dp + 1 + 16 < _; omega
  · show un + 3 + 128 < _; omega
  rintro r h1 tk1 F1 N1 k1 ⟨t1, rfl⟩
  (try k_unfold)
  (try dsimp only)
  repeat' ((fail_if_success (with_reducible show wpAny _ _ (exec (PySem.Stmt.Assign (_ :: _) (PySem.Expr.ListComp ..) ..) _) _ _ _)); walk_at "one step")
  k_dflt (refine Assign_ListComp_W (by k_asm) (by rfl) (by with_unfolding_all rfl) (by with_unfolding_all rfl) (by decide) (by rfl) (by decide) (by rfl) (by rfl) (by rfl) ?_)
  repeat' ((fail_if_success (with_reducible show wpAny _ _ (pyIter _) _ _ _)); walk_at "one step")
  k_dflt (refine CompW.range (n := 2) (by rfl) (by k_asm) (by k_asm) (by assumption) (by decide) (by rfl) (by rw [sizeLine_eq]; decide) ?_)
  intro g'
  refine rest_same (fun i ys => ∃ t1 t2, ys = [Value.int 1046 t1, Value.int 65 t2].take i) ?_ ⟨0, 0, rfl⟩ ?_
  · intro i v ys I oI C oC D m₂ h tk E' hi hv hJ hC hx F' N' off ne
    obtain ⟨t2, rfl⟩ := hv
    obtain ⟨t3, t4, rfl⟩ := hJ
    simp only [LCg.Off3] at off
    rcases i with _ | _ | i
    · (try k_fold)
      repeat' ((fail_if_success (with_reducible show wpAny _ _ (call (Value.ref _) _) _ _ _)); walk_at "one step")
      refine (hex_c w _ _ (by decide +kernel)).use (by k_asm) (by k_asm) (by k_asm) (by k_asm) (by k_asm) rfl rfl rfl rfl ?_ ?_ ?_
      · show dp + 1 + 8 < _; omega
      · show un + 3 + 64 < _; omega
      rintro r h2 tk2 F2 N2 k2 ⟨t5, e2⟩
      have e3 : r = Value.int 1046 t5 := e2.trans (congrArg (fun c => Value.int c t5) (by decide +kernel))
      subst e3
      clear e2
      (try k_unfold)
      (try dsimp only)
      repeat' ((fail_if_success (with_reducible show _ ∧ _)); walk_at "one step")
      exact ⟨rfl, t5, 0, rfl⟩
    · (try k_fold)
      repeat' ((fail_if_success (with_reducible show wpAny _ _ (call (Value.ref _) _) _ _ _)); walk_at "one step")
      refine (hex_c w _ _ (by decide +kernel)).use (by k_asm) (by k_asm) (by k_asm) (by k_asm) (by k_asm) rfl rfl rfl rfl ?_ ?_ ?_
      · show dp + 1 + 8 < _; omega
      · show un + 3 + 64 < _; omega
      rintro r h2 tk2 F2 N2 k2 ⟨t5, e2⟩
      have e3 : r = Value.int 65 t5 := e2.trans (congrArg (fun c => Value.int c t5) (by decide +kernel))
      subst e3
      clear e2
      (try k_unfold)
      (try dsimp only)
      repeat' ((fail_if_success (with_reducible show _ ∧ _)); walk_at "one step")
      exact ⟨rfl, t3, t5, rfl⟩
    · omega
  rintro ys ⟨t2, t3, rfl⟩
  repeat' ((fail_if_success (with_reducible show wpAny _ _ (call (Value.ref _) _) _ _ _)); walk_at "one step")
  refine (sign_c w 1046 _ (by decide) (by decide) (by decide)).use (by k_asm) (by k_asm) (by k_asm) (by k_asm) (by k_asm) rfl rfl rfl rfl ?_ ?_ ?_
  · show dp + 1 + 8 < _; omega
  · show un + 3 + 64 < _; omega
  rintro r h3 tk3 F3 N3 k3 rfl
  (try k_unfold)
  (try dsimp only)
  repeat' ((fail_if_success (with_reducible show wpAny _ _ (call (Value.ref _) _) _ _ _)); walk_at "one step")
  refine (sign_c w 65 _ (by decide) (by decide) (by decide)).use (by k_asm) (by k_asm) (by k_asm) (by k_asm) (by k_asm) rfl rfl rfl rfl ?_ ?_ ?_
  · show dp + 1 + 8 < _; omega
  · show un + 3 + 64 < _; omega
  rintro r h4 tk4 F4 N4 k4 rfl
  (try k_unfold)
  (try dsimp only)
  repeat' ((fail_if_success (with_reducible show LeaveK ..)); walk_at "one step")
  rename Fr _ _ _ _ => F9
  rename News _ _ _ _ => N9
  rename GSub _ _ _ => kG
  refine leaveK_ F9 N9 (fun kF kN => ?_)
  show Q _ _
  exact ret _ _ _ (fun b o e => F9.keep b o (kG b o e List.not_mem_nil)) ⟨_, congrArg (fun x => Value.str x _) (by decide +kernel)⟩
end Mine
end
section
open PySem PySem.W PyProof.Rows
namespace Mine
theorem PureC.mono {w : World} {d u : Nat} {f : Addr} {args : List Value} {R R' : Heap → Value → Heap → Prop} (P : PureC w d u f args R) (h : ∀ h0 r h', R h0 r h' → R' h0 r h') : PureC w d u f args R' :=
  fun mean mg mb A env outer A₀ base h₀ L m s Q E G X hh hA hd hu ret => P mean mg mb A env outer A₀ base h₀ L m s Q E G X hh hA hd hu fun r h' tk' k q => ret r h' tk' k (h _ _ _ q)
theorem known_x (w : World) (x : Str) (t : Tok) (c : Int) (hno : otherL.any (fun k => decide (x = k)) = false) (hc : kcode x = c) : PureC w 16 128 115 [.str x t] (fun _ r _ => ∃ t', r = .int c t') := hc ▸ known_c w x t hno
set_option maxRecDepth 100000 in
set_option maxHeartbeats 8000000 in
theorem known_fi (w : World) (t : Tok) : PureC w 16 128 115 [.str (Str.ofString "fi") t] (fun _ r _ => ∃ t', r = .int 64257 t') := by
  refine PureC.of ?_
  w_top off
  k_fill
  intro mean mg mb dp un gd env outer A₀ base h₀ L m s Q E X B F T hf hk hd hu ret
  (refine wpAny_call ?_; k_dflt (refine' code_defG (news := []) (binds := [(Str.ofString "name", .str (Str.ofString "fi") t)]) (by assumption) (by assumption) (by assumption) News.nil (by assumption) rfl (by assumption) (by assumption) ?k6 ?k7 ?k8 ?k9 ?kB ?_ ?c2 ?c3 ?c4 ?c5; (case k6 => k_is); (case k7 => k_is); (case k8 => (dsimp only [AR]; omega)); (case k9 => exact BindsTo.of_eq rfl); (case c5 => decide); (case kB => exact locs rfl); (case c2 => exact rfl); (case c3 => exact rfl); (case c4 => exact rfl); k_whole; intro g' L' h' FG' F' N' B' X' T' kG'; (try dsimp only); (try k_lift B'); (try k_fold)))
  repeat' ((fail_if_success (with_reducible show LeaveK ..)); walk_at "one step")
  rename Fr _ _ _ _ => F9
  rename News _ _ _ _ => N9
  rename GSub _ _ _ => kG
  refine leaveK_ F9 N9 (fun kF kN => ?_)
  show Q _ _
  exact ret _ _ _ (fun b o e => F9.keep b o (kG b o e List.not_mem_nil)) ⟨_, rfl⟩
theorem pt_A (w : World) (t : Tok) : PureC w 24 192 120 [.str ⟨#[65]⟩ t] (fun _ r _ => ∃ t', r = .str ⟨#[65]⟩ t') :=
  part_a w _ t 65 (known_x w _ t 65 (by decide +kernel) (by decide +kernel)) (by decide) (by decide)
theorem pt_space (w : World) (t : Tok) : PureC w 24 192 120 [.str ⟨#[115, 112, 97, 99, 101]⟩ t] (fun _ r _ => ∃ t', r = .str ⟨#[32]⟩ t') :=
  part_a w _ t 32 (known_x w _ t 32 (by decide +kernel) (by decide +kernel)) (by decide) (by decide)
theorem pt_a (w : World) (t : Tok) : PureC w 24 192 120 [.str ⟨#[97]⟩ t] (fun _ r _ => ∃ t', r = .str ⟨#[97]⟩ t') :=
  part_a w _ t 97 (known_x w _ t 97 (by decide +kernel) (by decide +kernel)) (by decide) (by decide)
theorem pt_b (w : World) (t : Tok) : PureC w 24 192 120 [.str ⟨#[98]⟩ t] (fun _ r _ => ∃ t', r = .str ⟨#[98]⟩ t') :=
  part_a w _ t 98 (known_x w _ t 98 (by decide +kernel) (by decide +kernel)) (by decide) (by decide)
theorem pt_one (w : World) (t : Tok) : PureC w 24 192 120 [.str ⟨#[111, 110, 101]⟩ t] (fun _ r _ => ∃ t', r = .str ⟨#[49]⟩ t') :=
  part_a w _ t 49 (known_x w _ t 49 (by decide +kernel) (by decide +kernel)) (by decide) (by decide)
theorem pt_fi (w : World) (t : Tok) : PureC w 24 192 120 [.str ⟨#[102, 105]⟩ t] (fun _ r _ => ∃ t', r = .str ⟨#[64257]⟩ t') :=
  part_a w _ t 64257 (by rw [show (⟨#[102, 105]⟩ : Str) = Str.ofString "fi" from by decide +kernel]; exact known_fi w t) (by decide) (by decide)
theorem pt_what (w : World) (t : Tok) : PureC w 24 192 120 [.str ⟨#[119, 104, 97, 116]⟩ t] (fun _ r _ => ∃ t', r = .str ⟨#[]⟩ t') := by
  rw [show (⟨#[119, 104, 97, 116]⟩ : Str) = Str.ofString "what" from by decide +kernel]
  refine (part_what w t (known_x w _ t (-1) (by decide +kernel) (by decide +kernel))).mono ?_
  rintro _ _ _ ⟨t', rfl⟩
  exact ⟨t', congrArg (fun x => Value.str x t') (by decide +kernel)⟩
theorem pt_nil (w : World) (t : Tok) : PureC w 24 192 120 [.str ⟨#[]⟩ t] (fun _ r _ => ∃ t', r = .str ⟨#[]⟩ t') := by
  rw [show (⟨#[]⟩ : Str) = Str.ofString "" from by decide +kernel]
  refine (part_nil w t (known_x w _ t (-1) (by decide +kernel) (by decide +kernel))).mono ?_
  rintro _ _ _ ⟨t', rfl⟩
  exact ⟨t', congrArg (fun x => Value.str x t') (by decide +kernel)⟩
theorem pt_uni04160041 (w : World) (t : Tok) : PureC w 24 192 120 [.str ⟨#[117, 110, 105, 48, 52, 49, 54, 48, 48, 52, 49]⟩ t] (fun _ r _ => ∃ t', r = .str ⟨#[1046, 65]⟩ t') := by
  rw [show (⟨#[117, 110, 105, 48, 52, 49, 54, 48, 48, 52, 49]⟩ : Str) = Str.ofString "uni04160041" from by decide +kernel]
  refine (part_uni w t (known_x w _ t (-1) (by decide +kernel) (by decide +kernel))).mono ?_
  rintro _ _ _ ⟨t', rfl⟩
  exact ⟨t', congrArg (fun x => Value.str x t') (by decide +kernel)⟩
theorem pt_u1F600 (w : World) (t : Tok) : PureC w 24 192 120 [.str ⟨#[117, 49, 70, 54, 48, 48]⟩ t] (fun _ r _ => ∃ t', r = .str ⟨#[128512]⟩ t') := by
  rw [show (⟨#[117, 49, 70, 54, 48, 48]⟩ : Str) = Str.ofString "u1F600" from by decide +kernel]
  refine (part_u1 w t (known_x w _ t (-1) (by decide +kernel) (by decide +kernel))).mono ?_
  rintro _ _ _ ⟨t', rfl⟩
  exact ⟨t', congrArg (fun x => Value.str x t') (by decide +kernel)⟩
set_option maxRecDepth 100000 in
set_option maxHeartbeats 8000000 in
theorem gl_gen (w : World) (x a y : Str) (t : Tok) (rest ps ys : List Str) (hn : x.length ≤ 100) (ha : a.length ≤ 100) (e1 : Txt.split x (Str.ofString ".") = a :: rest) (e2 : Txt.split a (Str.ofString "_") = ps) (hl : ys.length = ps.length) (hl2 : ps.length ≤ 10)
    (hp : ∀ (i : Nat) (p z : Str), ps[i]? = some p → ys[i]? = some z → ∀ t, PureC w 24 192 120 [.str p t] (fun _ r _ => ∃ t', r = .str z t')) (hw : (ys.map (·.length)).sum + ys.length ≤ 1048576) (ey : Txt.join (Str.ofString "") ys = y) :
    PureC w 32 256 125 [.str x t] (fun _ r _ => ∃ t', r = .str y t') := by
  refine PureC.of ?_
  w_top off
  k_fill
  intro mean mg mb dp un gd env outer A₀ base h₀ L m s Q E X B F T hf hk hd hu ret
  (refine wpAny_call ?_; k_dflt (refine' code_defG (news := []) (binds := [(Str.ofString "name", .str x t)]) (by assumption) (by assumption) (by assumption) News.nil (by assumption) rfl (by assumption) (by assumption) ?k6 ?k7 ?k8 ?k9 ?kB ?_ ?c2 ?c3 ?c4 ?c5; (case k6 => k_is); (case k7 => k_is); (case k8 => (dsimp only [AR]; omega)); (case k9 => exact BindsTo.of_eq rfl); (case c5 => decide); (case kB => exact locs rfl); (case c2 => exact rfl); (case c3 => exact rfl); (case c4 => exact rfl); k_whole; intro g' L' h' FG' F' N' B' X' T' kG'; (try dsimp only); (try k_lift B'); (try k_fold)))
  repeat' ((fail_if_success (with_reducible show wpAny _ _ (call (Value.builtin "str.split") _) _ _ _)); (fail_if_success (with_reducible show LeaveK ..)); (fail_if_success (with_reducible show wpAny _ _ (eval (PySem.Expr.ListComp ..) _) _ _ _)); walk_at "one step")
  k_dflt (refine LCg.ListComp_U (F₀ := by k_asm) (by with_unfolding_all rfl) (by decide) (by rfl) (by decide) (by rfl) ?_)
  repeat' ((fail_if_success (with_reducible show wpAny _ _ (call (Value.builtin "str.split") _) _ _ _)); (fail_if_success (with_reducible show LeaveK ..)); (fail_if_success (with_reducible show wpAny _ _ (eval (PySem.Expr.ListComp ..) _) _ _ _)); walk_at "one step")
  refine KSpl.split1 (by k_asm) (by k_asm) (by decide) ?_ (by rw [sizeLine_eq]; omega)
  intro D1 l1 h1 k1 e1' hs1 F1 N1 _
  rw [e1] at e1'
  obtain ⟨ta, l1', rfl, -⟩ := KSpl.cons_of e1'
  (try k_unfold)
  (try dsimp only)
  repeat' ((fail_if_success (with_reducible show wpAny _ _ (subscriptTail _ _ _ _) _ _ _)); (fail_if_success (with_reducible show LeaveK ..)); walk_at "one step")
  refine sub_any (vs := strValues ((a, ta) :: l1')) (News.isList N1 (.head _)) (by decide) (by decide) rfl ?_
  (try k_unfold)
  (try dsimp only)
  repeat' ((fail_if_success (with_reducible show wpAny _ _ (call (Value.builtin "str.split") _) _ _ _)); (fail_if_success (with_reducible show LeaveK ..)); walk_at "one step")
  refine KSpl.split1 F1 N1 (by decide) ?_ (by rw [sizeLine_eq]; omega)
  intro D2 l2 h2 k2 e2' hs2 F2 N2 _
  rw [e2'] at hs2
  rw [e2] at hs2
  (try k_unfold)
  (try dsimp only)
  repeat' ((fail_if_success (with_reducible show LCg.CompSrc ..)); (fail_if_success (with_reducible show LeaveK ..)); walk_at "one step")
  refine LCg.CompSrc.ledger (its := (strValues l2).toArray) (k := 0) rfl F2 N2 (.head _) (by rw [List.size_toArray, strs_len hs2, sizeLine_eq]; omega) ?_
  intro g4
  refine rest_strs ys (by rw [List.size_toArray, strs_len hs2, hl]) ?_ ?_
  · intro i v r vs I oI Cc oC Dd m2 h3 tk3 E' hi hv hr hC hx F3 N3 off3 ne3
    obtain ⟨p, tp, rfl, hpp⟩ := strs_get hs2 (by simpa using hv)
    (try k_unfold)
    (try dsimp only)
    repeat' ((fail_if_success (with_reducible show LCg.CompEnd ..)); (fail_if_success (with_reducible show wpAny _ _ (call (Value.ref _) _) _ _ _)); walk_at "one step")
    refine (hp i p r hpp hr tp).use (by k_asm) (by k_asm) (by k_asm) (by k_asm) (by k_asm) rfl rfl rfl rfl ?_ ?_ ?_
    · show dp + 1 + 24 < _; omega
    · show un + 3 + 192 < _; omega
    rintro r h6 tk6 F6 N6 k6 ⟨t6, rfl⟩
    (try k_unfold)
    (try dsimp only)
    repeat' ((fail_if_success (with_reducible show LCg.CompEnd ..)); (fail_if_success (with_reducible show wpAny _ _ (call (Value.ref _) _) _ _ _)); walk_at "one step")
    exact LCg.CompEnd.intro F6 N6 _ (fun _ h => h) off3 (Or.inr ⟨_, .head _, rfl, _, rfl⟩) (TxEl.mk rfl rfl rfl)
  · intro vs hvs
    intro D7 h7 tk7 F7 N7 o7
    (try k_unfold)
    (try dsimp only)
    repeat' ((fail_if_success (with_reducible show LeaveK ..)); (fail_if_success (with_reducible show wpAny _ _ (call (Value.builtin "str.join") _) _ _ _)); walk_at "one step")
    refine join_listW (News.isList N7 (.head _)) hvs (by decide) hw ?_
    intro tj kj
    rw [ey]
    (try k_unfold)
    (try dsimp only)
    repeat' ((fail_if_success (with_reducible show LeaveK ..)); walk_at "one step")
    rename Fr _ _ _ _ => F9
    rename News _ _ _ _ => N9
    rename GSub _ _ _ => kG
    refine leaveK_ F9 N9 (fun kF kN => ?_)
    show Q _ _
    exact ret _ _ _ (fun b o e => F9.keep b o (kG b o e List.not_mem_nil)) ⟨_, rfl⟩
theorem one_part {w : World} {p z : Str} (h : ∀ t, PureC w 24 192 120 [.str p t] (fun _ r _ => ∃ t', r = .str z t')) : ∀ (i : Nat) (p' z' : Str), [p][i]? = some p' → [z][i]? = some z' → ∀ t, PureC w 24 192 120 [.str p' t] (fun _ r _ => ∃ t', r = .str z' t')
  | 0, _, _, h1, h2, t => by cases h1; cases h2; exact h t
  | _ + 1, _, _, h1, _, _ => by cases h1
theorem two_parts {w : World} {p z p2 z2 : Str} (h : ∀ t, PureC w 24 192 120 [.str p t] (fun _ r _ => ∃ t', r = .str z t')) (h2 : ∀ t, PureC w 24 192 120 [.str p2 t] (fun _ r _ => ∃ t', r = .str z2 t')) : ∀ (i : Nat) (p' z' : Str), [p, p2][i]? = some p' → [z, z2][i]? = some z' → ∀ t, PureC w 24 192 120 [.str p' t] (fun _ r _ => ∃ t', r = .str z' t')
  | 0, _, _, a, b, t => by cases a; cases b; exact h t
  | 1, _, _, a, b, t => by cases a; cases b; exact h2 t
  | _ + 2, _, _, a, _, _ => by cases a
theorem gl_0 (w : World) (t : Tok) : PureC w 32 256 125 [.str (Str.ofString "A") t] (fun _ r _ => ∃ t', r = .str ⟨#[65]⟩ t') :=
  gl_gen w _ ⟨#[65]⟩ _ t [] [⟨#[65]⟩] [⟨#[65]⟩] (by decide +kernel) (by decide +kernel) (by decide +kernel) (by decide +kernel) rfl (by decide) (one_part fun t => pt_A w t) (by decide +kernel) (by decide +kernel)
theorem gl_1 (w : World) (t : Tok) : PureC w 32 256 125 [.str (Str.ofString "space") t] (fun _ r _ => ∃ t', r = .str ⟨#[32]⟩ t') :=
  gl_gen w _ ⟨#[115, 112, 97, 99, 101]⟩ _ t [] [⟨#[115, 112, 97, 99, 101]⟩] [⟨#[32]⟩] (by decide +kernel) (by decide +kernel) (by decide +kernel) (by decide +kernel) rfl (by decide) (one_part fun t => pt_space w t) (by decide +kernel) (by decide +kernel)
theorem gl_2 (w : World) (t : Tok) : PureC w 32 256 125 [.str (Str.ofString "fi") t] (fun _ r _ => ∃ t', r = .str ⟨#[64257]⟩ t') :=
  gl_gen w _ ⟨#[102, 105]⟩ _ t [] [⟨#[102, 105]⟩] [⟨#[64257]⟩] (by decide +kernel) (by decide +kernel) (by decide +kernel) (by decide +kernel) rfl (by decide) (one_part fun t => pt_fi w t) (by decide +kernel) (by decide +kernel)
theorem gl_3 (w : World) (t : Tok) : PureC w 32 256 125 [.str (Str.ofString "a_b") t] (fun _ r _ => ∃ t', r = .str ⟨#[97, 98]⟩ t') :=
  gl_gen w _ ⟨#[97, 95, 98]⟩ _ t [] [⟨#[97]⟩, ⟨#[98]⟩] [⟨#[97]⟩, ⟨#[98]⟩] (by decide +kernel) (by decide +kernel) (by decide +kernel) (by decide +kernel) rfl (by decide) (two_parts (fun t => pt_a w t) fun t => pt_b w t) (by decide +kernel) (by decide +kernel)
theorem gl_4 (w : World) (t : Tok) : PureC w 32 256 125 [.str (Str.ofString "one.alt") t] (fun _ r _ => ∃ t', r = .str ⟨#[49]⟩ t') :=
  gl_gen w _ ⟨#[111, 110, 101]⟩ _ t [⟨#[97, 108, 116]⟩] [⟨#[111, 110, 101]⟩] [⟨#[49]⟩] (by decide +kernel) (by decide +kernel) (by decide +kernel) (by decide +kernel) rfl (by decide) (one_part fun t => pt_one w t) (by decide +kernel) (by decide +kernel)
theorem gl_5 (w : World) (t : Tok) : PureC w 32 256 125 [.str (Str.ofString "uni04160041") t] (fun _ r _ => ∃ t', r = .str ⟨#[1046, 65]⟩ t') :=
  gl_gen w _ ⟨#[117, 110, 105, 48, 52, 49, 54, 48, 48, 52, 49]⟩ _ t [] [⟨#[117, 110, 105, 48, 52, 49, 54, 48, 48, 52, 49]⟩] [⟨#[1046, 65]⟩] (by decide +kernel) (by decide +kernel) (by decide +kernel) (by decide +kernel) rfl (by decide) (one_part fun t => pt_uni04160041 w t) (by decide +kernel) (by decide +kernel)
theorem gl_6 (w : World) (t : Tok) : PureC w 32 256 125 [.str (Str.ofString "what") t] (fun _ r _ => ∃ t', r = .str ⟨#[]⟩ t') :=
  gl_gen w _ ⟨#[119, 104, 97, 116]⟩ _ t [] [⟨#[119, 104, 97, 116]⟩] [⟨#[]⟩] (by decide +kernel) (by decide +kernel) (by decide +kernel) (by decide +kernel) rfl (by decide) (one_part fun t => pt_what w t) (by decide +kernel) (by decide +kernel)
theorem gl_7 (w : World) (t : Tok) : PureC w 32 256 125 [.str (Str.ofString "") t] (fun _ r _ => ∃ t', r = .str ⟨#[]⟩ t') :=
  gl_gen w _ ⟨#[]⟩ _ t [] [⟨#[]⟩] [⟨#[]⟩] (by decide +kernel) (by decide +kernel) (by decide +kernel) (by decide +kernel) rfl (by decide) (one_part fun t => pt_nil w t) (by decide +kernel) (by decide +kernel)
theorem gl_8 (w : World) (t : Tok) : PureC w 32 256 125 [.str (Str.ofString "u1F600") t] (fun _ r _ => ∃ t', r = .str ⟨#[128512]⟩ t') :=
  gl_gen w _ ⟨#[117, 49, 70, 54, 48, 48]⟩ _ t [] [⟨#[117, 49, 70, 54, 48, 48]⟩] [⟨#[128512]⟩] (by decide +kernel) (by decide +kernel) (by decide +kernel) (by decide +kernel) rfl (by decide) (one_part fun t => pt_u1F600 w t) (by decide +kernel) (by decide +kernel)
noncomputable def nms : List Str := [Str.ofString "A", Str.ofString "space", Str.ofString "fi", Str.ofString "a_b", Str.ofString "one.alt", Str.ofString "uni04160041", Str.ofString "what", Str.ofString "", Str.ofString "u1F600"]
noncomputable def txs : List Str := [⟨#[65]⟩, ⟨#[32]⟩, ⟨#[64257]⟩, ⟨#[97, 98]⟩, ⟨#[49]⟩, ⟨#[1046, 65]⟩, ⟨#[]⟩, ⟨#[]⟩, ⟨#[128512]⟩]
theorem gl_all (w : World) (t : Tok) : ∀ (k : Nat) (x y : Str), nms[k]? = some x → txs[k]? = some y → PureC w 32 256 125 [.str x t] (fun _ r _ => ∃ t', r = .str y t') := by
  intro k x y hx hy
  have hk : k < 9 := (List.getElem?_eq_some_iff.mp hx).1
  match k, hk with
  | 0, _ => cases hx; cases hy; exact gl_0 w t
  | 1, _ => cases hx; cases hy; exact gl_1 w t
  | 2, _ => cases hx; cases hy; exact gl_2 w t
  | 3, _ => cases hx; cases hy; exact gl_3 w t
  | 4, _ => cases hx; cases hy; exact gl_4 w t
  | 5, _ => cases hx; cases hy; exact gl_5 w t
  | 6, _ => cases hx; cases hy; exact gl_6 w t
  | 7, _ => cases hx; cases hy; exact gl_7 w t
  | 8, _ => cases hx; cases hy; exact gl_8 w t
end Mine
end
section
open PySem PySem.W PyProof.Rows PySem.Calls PySem.Spec PyProof.V
namespace Mine
noncomputable abbrev PRG : Program := Mine.rw.row.prog
noncomputable abbrev tupO (vs : List Value) (n : Nat) : Obj := { cls := .type "tuple", data := .seq vs.toArray n }
/-- what the font cuts by -/
inductive CutAt (news : List (Addr × Obj)) : Bool → Value → Prop
  | no : CutAt news false .none
  | cut (CT CM EL dM SP TP : Addr) (n1 n2 n3 n4 : Nat) (g1 g2 : Int) (u1 u2 u3 u4 u5 : Tok) (cv2 : Value) (h1 : (CT, tupO [.ref CM, .ref EL] n1) ∈ news) (h2 : (CM, instObj 45 dM) ∈ news)
    (h3 : (dM, dictOf [⟨g1, .str (Str.ofString "spaces") u1, .ref SP⟩, ⟨g2, .str (Str.ofString "chars") u2, cv2⟩] n2) ∈ news) (h4 : (SP, W.listOf #[.ref TP] n3) ∈ news) (h5 : (TP, tupO [.int 1 u3, .int 0 u4, .int 255 u5] n4) ∈ news) : CutAt news true (.ref CT)
/-- the font's map -/
inductive UniAt (w : World) (news : List (Addr × Obj)) : Option (List (PyData × PyData)) → Value → Prop
  | no : UniAt w news none .none
  | map (D : List (PyData × PyData)) (UM dU CH : Addr) (n1 : Nat) (g1 g2 : Int) (u1 u2 : Tok) (sp : Value) (h1 : (UM, instObj 45 dU) ∈ news)
    (h2 : (dU, dictOf [⟨g1, .str (Str.ofString "spaces") u1, sp⟩, ⟨g2, .str (Str.ofString "chars") u2, .ref CH⟩] n1) ∈ news) (h3 : TupTab (intKind PRG w) PyData.int news CH D) : UniAt w news (some D) (.ref UM)
theorem CutAt.narrow {news : List (Addr × Obj)} {cv : Value} (h : CutAt news false cv) : cv = .none := by cases h; rfl
theorem UniAt.no' {w : World} {news : List (Addr × Obj)} {uv : Value} (h : UniAt w news none uv) : uv = .none := by cases h; rfl
/-- a font of its parts -/
inductive FontAt (w : World) (news : List (Addr × Obj)) (xF : Addr) (wide : Bool) (um : Option (List (PyData × PyData))) (names : List Str) : Prop
  | mk (dF NL : Addr) (vs : List Value) (n n7 : Nat) (uv cv r4 r5 r6 r7 : Value) (h1 h2 h3 h4 h5 h6 h7 : Int) (t1 t2 t3 t4 t5 t6 t7 : Tok) (m1 : (xF, instObj 161 dF) ∈ news)
    (m2 : (dF, dictOf [⟨h1, .str (Str.ofString "names") t1, .ref NL⟩, ⟨h2, .str (Str.ofString "cutting") t2, cv⟩, ⟨h3, .str (Str.ofString "unicode") t3, uv⟩, ⟨h4, .str (Str.ofString "rows") t4, r4⟩, ⟨h5, .str (Str.ofString "default") t5, r5⟩, ⟨h6, .str (Str.ofString "unit") t6, r6⟩, ⟨h7, .str (Str.ofString "standard") t7, r7⟩] n7) ∈ news)
    (m3 : (NL, W.listOf vs.toArray n) ∈ news) (m4 : StrsAre vs names) (m5 : CutAt news wide cv) (m6 : UniAt w news um uv)
/-- a call that leaves what there is as it is, of what lies in the ledger -/
noncomputable def PureN (w : World) (d u : Nat) (f : Addr) (args : List Value) (Pre : List (Addr × Obj) → Prop) (Res : Heap → Value → Heap → Prop) : Prop :=
  ∀ (mean : ExcName → Option Value) (mg mb : Str → Option Value) (A : Around) (env : Env) (outer : List Env) (A₀ : Around) (base h₀ : Heap) (L : Addr) (m : Str → Option Value) (news : List (Addr × Obj)) (s : Shared) (Q E : Value → Shared → Prop),
    Gr w mean mg mb A₀ base env outer h₀ L m s → News h₀ L s.heap news → Pre news → Frag.In (Mine.K w.params) h₀ → A.handled = none → A.frames = some (env :: outer) → A.depth + d < recursionLimit → A.units + u < cLine →
    (∀ r h' tk', (∀ b o, s.heap.get? b = some o → h'.get? b = some o) → Res s.heap r h' → Q r { s with heap := h', toks := tk' }) →
    wpAny (model Mine.rw.row.prog w) A (call (.ref f) args) Q E s
theorem PureN.of {w : World} {d u : Nat} {f : Addr} {args : List Value} {Pre : List (Addr × Obj) → Prop} {Res : Heap → Value → Heap → Prop}
    (H : ∀ (mean : ExcName → Option Value) (mg mb : Str → Option Value) (dp un : Nat) (gd : Option (List Code)) (env : Env) (outer : List Env) (A₀ : Around) (base h₀ : Heap) (L : Addr) (m : Str → Option Value) (news : List (Addr × Obj)) (s : Shared) (Q E : Value → Shared → Prop),
      Frag.In (Mine.K w.params) h₀ → Below A₀ base outer h₀ → Fr h₀ L s.heap m → News h₀ L s.heap news → Pre news → Top hd.view_39 (looseW hd.view_39 [Str.ofString "OTHER_CODES"]) mean mg mb h₀ → env.frame = some L → env.scope.kind = .function → dp + d < recursionLimit → un + u < cLine →
      (∀ r h' tk', (∀ b o, s.heap.get? b = some o → h'.get? b = some o) → Res s.heap r h' → Q r { s with heap := h', toks := tk' }) →
      wpAny (model Mine.rw.row.prog w) (AR dp un gd env outer) (call (.ref f) args) Q E s) : PureN w d u f args Pre Res := by
  intro mean mg mb A env outer A₀ base h₀ L m news s Q E G N hp X hh hA hd hu ret
  obtain ⟨hdl, dp, fr, gd, un⟩ := A
  simp only at hh hA hd hu
  subst hh hA
  exact H mean mg mb dp un gd env outer A₀ base h₀ L m news s Q E X G.B G.F N hp G.T G.hf G.hk hd hu ret
theorem PureN.use {w : World} {d u : Nat} {f : Addr} {args : List Value} {Pre : List (Addr × Obj) → Prop} {Res : Heap → Value → Heap → Prop} (P : PureN w d u f args Pre Res)
    {mean : ExcName → Option Value} {mg mb : Str → Option Value} {A : Around} {env : Env} {outer : List Env} {A₀ : Around} {base h₀ : Heap} {L : Addr} {m : Str → Option Value} {s : Shared} {Q E : Value → Shared → Prop} {news : List (Addr × Obj)}
    (B : Below A₀ base outer h₀) (F : Fr h₀ L s.heap m) (N : News h₀ L s.heap news) (hp : Pre news) (X : Frag.In (Mine.K w.params) h₀) (T : Top hd.view_39 (looseW hd.view_39 [Str.ofString "OTHER_CODES"]) mean mg mb h₀)
    (hh : A.handled = none) (hA : A.frames = some (env :: outer)) (hf : env.frame = some L) (hk : env.scope.kind = .function) (hd : A.depth + d < recursionLimit) (hu : A.units + u < cLine)
    (ret : ∀ r h' tk', Fr h₀ L h' m → News h₀ L h' news → (∀ b o, s.heap.get? b = some o → h'.get? b = some o) → Res s.heap r h' → Q r { s with heap := h', toks := tk' }) :
    wpAny (model Mine.rw.row.prog w) A (call (.ref f) args) Q E s :=
  P mean mg mb A env outer A₀ base h₀ L m news s Q E ⟨B, F, T, hf, hk⟩ N hp X hh hA hd hu fun r h' tk' k q => ret r h' tk' (F.keeps k) (N.grown k) k q
end Mine
end
section
open PySem PySem.W PyProof.Rows PySem.Spec PyProof.V
namespace Mine
theorem strs_at : ∀ {vs : List Value} {ss : List Str}, StrsAre vs ss → ∀ {i : Nat} {x : Str}, ss[i]? = some x → ∃ t, vs[i]? = some (.str x t)
  | _, _, .nil, _, _, h => by cases h
  | _, _, .cons y t _, 0, _, h => by cases h; exact ⟨t, rfl⟩
  | _, _, .cons _ _ r, i + 1, _, h => strs_at r (by simpa using h)
theorem key_obj (w : World) (a b : Int) (t u : Tok) (n : Nat) : TupKeyObj (intKind PRG w) [a, b] (tupO [.int a t, .int b u] n) := ⟨rfl, _, _, rfl, ItemsAre.cons (intKind_is _ _ _ _) (ItemsAre.cons (intKind_is _ _ _ _) ItemsAre.nil)⟩
theorem item_tup {K : Type} [DecidableEq K] {prog : Program} {w : World} {A : Around} {E : Value → Shared → Prop} {s : Shared} {knd : KeyKind prog w K} {enc : K → PyData} {h₀ : Heap} {L d a : Addr} {news : List (Addr × Obj)} {D : List (PyData × PyData)} {ks : List K} {ok : Obj}
    {value slice : PySem.Expr} {dv : PyData} {Q : Value → Shared → Prop} (henc : ∀ a b, same (enc a) (enc b) = decide (a = b)) (hu : A.units + 1 < cLine) (N : News h₀ L s.heap news) (T : TupTab knd enc news d D)
    (hka : (a, ok) ∈ news) (tk : TupKeyObj knd ks ok) (hl : lookup (encTuple enc ks) D = some dv) (h : ∀ v, Flat v dv → Q v { s with toks := s.toks + (ks.length + 1) })
    (hs : subscripted slice false (.ref d) (.ref a) = operate [.ref d, .ref a] (getItem (.ref d) (.ref a)) := by with_unfolding_all rfl) :
    wpAny (model prog w) A (subscriptTail value slice (.ref d) (.ref a)) Q E s := by
  obtain ⟨lo, xs, hd, hf⟩ := T.at N
  obtain ⟨v, hv, hfl⟩ := hf.of_lookup (same_encTuple henc) hl
  rw [valueAt_kvsOf] at hv
  obtain ⟨p, hp, rfl⟩ := Option.map_eq_some_iff.mp hv
  exact tail_any hd.typeIs slot_dict_getitem.lookup (wpAny_getItem_heap (knd := tupleKind knd) (tupleKind_room_in1 hu) (tk.key (N.get hka)) hd hp (h _ hfl)) hs
noncomputable def mapK (o : Int) : PyData := encTuple PyData.int [1, o]
set_option maxRecDepth 100000 in
set_option maxHeartbeats 8000000 in
theorem text_1 (w : World) (xF pr : Addr) (o : Int) (names : List Str) (k : Nat) (x y : Str) (a t : Tok) (n : Nat) (h0 : 0 ≤ o) (h1 : o < 1000) (hx : names[o.toNat]? = some x) (hn : nms[k]? = some x) (hy : txs[k]? = some y) :
    PureN w 40 320 158 [.ref xF, .ref pr] (fun news => FontAt w news xF false none names ∧ (pr, tupO [.int 1 a, .int o t] n) ∈ news) (fun _ r _ => ∃ t', r = .str y t') := by
  refine PureN.of ?_
  w_top off
  k_fill
  intro mean mg mb dp un gd env outer A₀ base h₀ L m news s Q E X B F N hp T hf hk hd hu ret
  obtain ⟨⟨dF, NL, vs, n6, n7, uv, cv, r4, r5, r6, r7, h1, h2, h3, h4, h5, h6, h7, t1, t2, t3, t4, t5, t6, t7, mx, md, mn, hvs, hc, hu'⟩, mp⟩ := hp
  have ec := hc.narrow
  subst ec
  have eu := hu'.no'
  subst eu
  refine wpAny_call ?_
  k_dflt (refine' code_defG (news := news) (binds := [(Str.ofString "self", .ref xF), (Str.ofString "pair", .ref pr)]) B F X N T rfl hf hk ?k6 ?k7 ?k8 ?k9 ?kB ?_ ?c2 ?c3 ?c4 ?c5; (case k6 => k_is); (case k7 => k_is); (case k8 => (dsimp only [AR]; omega)); (case k9 => exact BindsTo.of_eq rfl); (case c5 => decide); (case kB => exact locs rfl); (case c2 => exact rfl); (case c3 => exact rfl); (case c4 => exact rfl); k_whole; intro g' L' h' FG' F' N' B' X' T' kG'; (try dsimp only); (try k_lift B'); (try k_fold))
  repeat' ((fail_if_success (with_reducible show wpAny _ _ (subscriptTail (PySem.Expr.Attribute (PySem.Expr.Name ..) ..) (PySem.Expr.Subscript ..) _ _) _ _ _)); walk_at "one step")
  obtain ⟨tx, hvx⟩ := strs_at hvs hx
  rename News _ _ _ _ => N8
  refine sub_any (PySem.IsL.isList (n := n6) (N8 _ mn).1) h0 (by omega) hvx ?_
  repeat' ((fail_if_success (with_reducible show wpAny _ _ (call (Value.ref _) _) _ _ _)); walk_at "one step")
  refine (gl_all w _ k x y hn hy).use (by k_asm) (by k_asm) (by k_asm) (by k_asm) (by k_asm) rfl rfl rfl rfl ?_ ?_ ?_
  · show dp + 1 + 32 < _; omega
  · show un + 3 + 256 < _; omega
  rintro r h2 tk2 F2 N2 k2 ⟨t2, rfl⟩
  (try k_unfold)
  (try dsimp only)
  repeat' ((fail_if_success (with_reducible show LeaveK ..)); walk_at "one step")
  rename Fr _ _ _ _ => F9
  rename News _ _ _ _ => N9
  rename GSub _ _ _ => kG
  refine leaveK_ F9 N9 (fun kF kN => ?_)
  show Q _ _
  exact ret _ _ _ (elt_after (InElt.start _) kG N F9 N9 (fun _ h => h)) ⟨_, rfl⟩
set_option maxRecDepth 100000 in
set_option maxHeartbeats 8000000 in
theorem text_2 (w : World) (xF pr : Addr) (o : Int) (names : List Str) (a t : Tok) (n : Nat)  :
    PureN w 40 320 158 [.ref xF, .ref pr] (fun news => FontAt w news xF true none names ∧ (pr, tupO [.int 1 a, .int o t] n) ∈ news) (fun _ r _ => ∃ t', r = .str (Str.ofString "") t') := by
  refine PureN.of ?_
  w_top off
  k_fill
  intro mean mg mb dp un gd env outer A₀ base h₀ L m news s Q E X B F N hp T hf hk hd hu ret
  obtain ⟨⟨dF, NL, vs, n6, n7, uv, cv, r4, r5, r6, r7, h1, h2, h3, h4, h5, h6, h7, t1, t2, t3, t4, t5, t6, t7, mx, md, mn, hvs, hc, hu'⟩, mp⟩ := hp
  cases hc
  have eu := hu'.no'
  subst eu
  refine wpAny_call ?_
  k_dflt (refine' code_defG (news := news) (binds := [(Str.ofString "self", .ref xF), (Str.ofString "pair", .ref pr)]) B F X N T rfl hf hk ?k6 ?k7 ?k8 ?k9 ?kB ?_ ?c2 ?c3 ?c4 ?c5; (case k6 => k_is); (case k7 => k_is); (case k8 => (dsimp only [AR]; omega)); (case k9 => exact BindsTo.of_eq rfl); (case c5 => decide); (case kB => exact locs rfl); (case c2 => exact rfl); (case c3 => exact rfl); (case c4 => exact rfl); k_whole; intro g' L' h' FG' F' N' B' X' T' kG'; (try dsimp only); (try k_lift B'); (try k_fold))
  repeat' ((fail_if_success (with_reducible show LeaveK ..)); walk_at "one step")
  rename Fr _ _ _ _ => F9
  rename News _ _ _ _ => N9
  rename GSub _ _ _ => kG
  refine leaveK_ F9 N9 (fun kF kN => ?_)
  show Q _ _
  exact ret _ _ _ (elt_after (InElt.start _) kG N F9 N9 (fun _ h => h)) ⟨_, rfl⟩
set_option maxRecDepth 100000 in
set_option maxHeartbeats 8000000 in
theorem text_3 (w : World) (xF pr : Addr) (o : Int) (D : List (PyData × PyData)) (names : List Str) (k : Nat) (x y : Str) (a t : Tok) (n : Nat) (h0 : 0 ≤ o) (h1 : o < 1000) (hx : names[o.toNat]? = some x) (hn : nms[k]? = some x) (hy : txs[k]? = some y) (hD : lookup (mapK o) D = none) :
    PureN w 40 320 158 [.ref xF, .ref pr] (fun news => FontAt w news xF false (some D) names ∧ (pr, tupO [.int 1 a, .int o t] n) ∈ news) (fun _ r _ => ∃ t', r = .str y t') := by
  refine PureN.of ?_
  w_top off
  k_fill
  intro mean mg mb dp un gd env outer A₀ base h₀ L m news s Q E X B F N hp T hf hk hd hu ret
  obtain ⟨⟨dF, NL, vs, n6, n7, uv, cv, r4, r5, r6, r7, h1, h2, h3, h4, h5, h6, h7, t1, t2, t3, t4, t5, t6, t7, mx, md, mn, hvs, hc, hu'⟩, mp⟩ := hp
  have ec := hc.narrow
  subst ec
  obtain - | ⟨_, UM, dU, CH, m1, g1, g2, u1, u2, sp, mu, mdu, tab⟩ := hu'
  refine wpAny_call ?_
  k_dflt (refine' code_defG (news := news) (binds := [(Str.ofString "self", .ref xF), (Str.ofString "pair", .ref pr)]) B F X N T rfl hf hk ?k6 ?k7 ?k8 ?k9 ?kB ?_ ?c2 ?c3 ?c4 ?c5; (case k6 => k_is); (case k7 => k_is); (case k8 => (dsimp only [AR]; omega)); (case k9 => exact BindsTo.of_eq rfl); (case c5 => decide); (case kB => exact locs rfl); (case c2 => exact rfl); (case c3 => exact rfl); (case c4 => exact rfl); k_whole; intro g' L' h' FG' F' N' B' X' T' kG'; (try dsimp only); (try k_lift B'); (try k_fold))
  repeat' ((fail_if_success (with_reducible show wpAny _ _ (compareOp CmpOp.In _ _) _ _ _)); walk_at "one step")
  refine in_tupTab_eq same_int (by show un + 3 + 1 < _; omega) (by k_asm) tab mp (key_obj w 1 o a t n) (b := false) (by exact (congrArg Option.isSome hD)) ?_
  repeat' ((fail_if_success (with_reducible show wpAny _ _ (subscriptTail (PySem.Expr.Attribute (PySem.Expr.Name ..) ..) (PySem.Expr.Subscript ..) _ _) _ _ _)); walk_at "one step")
  obtain ⟨tx, hvx⟩ := strs_at hvs hx
  rename News _ _ _ _ => N8
  refine sub_any (PySem.IsL.isList (n := n6) (N8 _ mn).1) h0 (by omega) hvx ?_
  repeat' ((fail_if_success (with_reducible show wpAny _ _ (call (Value.ref _) _) _ _ _)); walk_at "one step")
  refine (gl_all w _ k x y hn hy).use (by k_asm) (by k_asm) (by k_asm) (by k_asm) (by k_asm) rfl rfl rfl rfl ?_ ?_ ?_
  · show dp + 1 + 32 < _; omega
  · show un + 3 + 256 < _; omega
  rintro r h2 tk2 F2 N2 k2 ⟨t2, rfl⟩
  (try k_unfold)
  (try dsimp only)
  repeat' ((fail_if_success (with_reducible show LeaveK ..)); walk_at "one step")
  rename Fr _ _ _ _ => F9
  rename News _ _ _ _ => N9
  rename GSub _ _ _ => kG
  refine leaveK_ F9 N9 (fun kF kN => ?_)
  show Q _ _
  exact ret _ _ _ (elt_after (InElt.start _) kG N F9 N9 (fun _ h => h)) ⟨_, rfl⟩
set_option maxRecDepth 100000 in
set_option maxHeartbeats 8000000 in
theorem text_4 (w : World) (xF pr : Addr) (o : Int) (D : List (PyData × PyData)) (names : List Str) (a t : Tok) (n : Nat) (hD : lookup (mapK o) D = none) :
    PureN w 40 320 158 [.ref xF, .ref pr] (fun news => FontAt w news xF true (some D) names ∧ (pr, tupO [.int 1 a, .int o t] n) ∈ news) (fun _ r _ => ∃ t', r = .str (Str.ofString "") t') := by
  refine PureN.of ?_
  w_top off
  k_fill
  intro mean mg mb dp un gd env outer A₀ base h₀ L m news s Q E X B F N hp T hf hk hd hu ret
  obtain ⟨⟨dF, NL, vs, n6, n7, uv, cv, r4, r5, r6, r7, h1, h2, h3, h4, h5, h6, h7, t1, t2, t3, t4, t5, t6, t7, mx, md, mn, hvs, hc, hu'⟩, mp⟩ := hp
  cases hc
  obtain - | ⟨_, UM, dU, CH, m1, g1, g2, u1, u2, sp, mu, mdu, tab⟩ := hu'
  refine wpAny_call ?_
  k_dflt (refine' code_defG (news := news) (binds := [(Str.ofString "self", .ref xF), (Str.ofString "pair", .ref pr)]) B F X N T rfl hf hk ?k6 ?k7 ?k8 ?k9 ?kB ?_ ?c2 ?c3 ?c4 ?c5; (case k6 => k_is); (case k7 => k_is); (case k8 => (dsimp only [AR]; omega)); (case k9 => exact BindsTo.of_eq rfl); (case c5 => decide); (case kB => exact locs rfl); (case c2 => exact rfl); (case c3 => exact rfl); (case c4 => exact rfl); k_whole; intro g' L' h' FG' F' N' B' X' T' kG'; (try dsimp only); (try k_lift B'); (try k_fold))
  repeat' ((fail_if_success (with_reducible show wpAny _ _ (compareOp CmpOp.In _ _) _ _ _)); walk_at "one step")
  refine in_tupTab_eq same_int (by show un + 3 + 1 < _; omega) (by k_asm) tab mp (key_obj w 1 o a t n) (b := false) (by exact (congrArg Option.isSome hD)) ?_
  repeat' ((fail_if_success (with_reducible show LeaveK ..)); walk_at "one step")
  rename Fr _ _ _ _ => F9
  rename News _ _ _ _ => N9
  rename GSub _ _ _ => kG
  refine leaveK_ F9 N9 (fun kF kN => ?_)
  show Q _ _
  exact ret _ _ _ (elt_after (InElt.start _) kG N F9 N9 (fun _ h => h)) ⟨_, rfl⟩
set_option maxRecDepth 100000 in
set_option maxHeartbeats 8000000 in
theorem text_5 (w : World) (xF pr : Addr) (o : Int) (wide : Bool) (D : List (PyData × PyData)) (names : List Str) (y : Str) (a t : Tok) (n : Nat) (hD : lookup (mapK o) D = some (.str y)) :
    PureN w 40 320 158 [.ref xF, .ref pr] (fun news => FontAt w news xF wide (some D) names ∧ (pr, tupO [.int 1 a, .int o t] n) ∈ news) (fun _ r _ => ∃ t', r = .str y t') := by
  refine PureN.of ?_
  w_top off
  k_fill
  intro mean mg mb dp un gd env outer A₀ base h₀ L m news s Q E X B F N hp T hf hk hd hu ret
  obtain ⟨⟨dF, NL, vs, n6, n7, uv, cv, r4, r5, r6, r7, h1, h2, h3, h4, h5, h6, h7, t1, t2, t3, t4, t5, t6, t7, mx, md, mn, hvs, hc, hu'⟩, mp⟩ := hp
  obtain - | ⟨_, UM, dU, CH, m1, g1, g2, u1, u2, sp, mu, mdu, tab⟩ := hu'
  refine wpAny_call ?_
  k_dflt (refine' code_defG (news := news) (binds := [(Str.ofString "self", .ref xF), (Str.ofString "pair", .ref pr)]) B F X N T rfl hf hk ?k6 ?k7 ?k8 ?k9 ?kB ?_ ?c2 ?c3 ?c4 ?c5; (case k6 => k_is); (case k7 => k_is); (case k8 => (dsimp only [AR]; omega)); (case k9 => exact BindsTo.of_eq rfl); (case c5 => decide); (case kB => exact locs rfl); (case c2 => exact rfl); (case c3 => exact rfl); (case c4 => exact rfl); k_whole; intro g' L' h' FG' F' N' B' X' T' kG'; (try dsimp only); (try k_lift B'); (try k_fold))
  repeat' ((fail_if_success (with_reducible show wpAny _ _ (compareOp CmpOp.In _ _) _ _ _)); walk_at "one step")
  refine in_tupTab_eq same_int (by show un + 3 + 1 < _; omega) (by k_asm) tab mp (key_obj w 1 o a t n) (b := true) (by exact (congrArg Option.isSome hD)) ?_
  repeat' ((fail_if_success (with_reducible show wpAny _ _ (subscriptTail (PySem.Expr.Attribute ..) _ _ _) _ _ _)); walk_at "one step")
  refine item_tup same_int (by show un + 3 + 1 < _; omega) (by k_asm) tab mp (key_obj w 1 o a t n) hD ?_
  intro v hv
  obtain ⟨tv, rfl⟩ := hv.str_inv
  repeat' ((fail_if_success (with_reducible show LeaveK ..)); walk_at "one step")
  rename Fr _ _ _ _ => F9
  rename News _ _ _ _ => N9
  rename GSub _ _ _ => kG
  refine leaveK_ F9 N9 (fun kF kN => ?_)
  show Q _ _
  exact ret _ _ _ (elt_after (InElt.start _) kG N F9 N9 (fun _ h => h)) ⟨_, rfl⟩
end Mine
end
section
open PySem PySem.W PyProof.Rows PySem.Spec PyProof.V
namespace Mine
theorem ints_cast {vs : List Value} {ns ms : List Int} (h : IntsAre vs ns) (e : ns = ms) : IntsAre vs ms := e ▸ h
set_option maxRecDepth 100000 in
set_option maxHeartbeats 8000000 in
theorem oct_0 (w : World) (t u : Tok) : PureC w 8 64 61 [.int 1 t, .int 0 u] (fun _ r _ => ∃ t', r = .bytes (byteArr [0]) t') := by
  refine PureC.of ?_
  w_top off
  k_fill
  intro mean mg mb dp un gd env outer A₀ base h₀ L m s Q E X B F T hf hk hd hu ret
  (refine wpAny_call ?_; k_dflt (refine' code_defGC (news := []) (binds := [(Str.ofString "length", .int 1 t), (Str.ofString "code", .int 0 u)]) (by assumption) (by assumption) (by assumption) News.nil (by assumption) rfl (by assumption) (by assumption) ?k6 ?k7 ?k8 ?k9 ?kB ?kD ?_ ?c2 ?c3 ?c4; (case k6 => k_is); (case k7 => k_is); (case k8 => (dsimp only [AR]; omega)); (case k9 => exact BindsTo.of_eq rfl); (case kB => exact rfl); (case kD => decide +kernel); (case c2 => exact rfl); (case c3 => exact rfl); (case c4 => exact rfl); k_whole; intro g' L' h' tk' cells' FG' F' N' Y' B' X' T' l1 kG'; clear l1; k_cells Y'; (try simp only [List.cons_append, List.nil_append] at N'); (try dsimp only); (try k_lift B'); (try k_fold)))
  repeat' ((fail_if_success (with_reducible show wpAny _ _ (call (Value.type "bytes") _) _ _ _)); walk_at "one step")
  rename IntsAre _ _ => i8
  have i9 := ints_cast (ms := [0]) i8 (by decide +kernel)
  refine KBa.make_K (by k_asm) (by k_asm) rfl (by is_list) i9 (by intro n hn; rw [List.mem_singleton.mp hn]; decide) (by decide) ?_
  intro h5 t5 k5 F5 N5 _
  (try k_unfold)
  (try dsimp only)
  repeat' ((fail_if_success (with_reducible show LeaveK ..)); walk_at "one step")
  rename Fr _ _ _ _ => F9
  rename News _ _ _ _ => N9
  rename GSub _ _ _ => kG
  refine leaveK_ F9 N9 (fun kF kN => ?_)
  show Q _ _
  exact ret _ _ _ (fun b o e => F9.keep b o (kG b o e List.not_mem_nil)) ⟨_, rfl⟩
set_option maxRecDepth 100000 in
set_option maxHeartbeats 8000000 in
theorem oct_255 (w : World) (t u : Tok) : PureC w 8 64 61 [.int 1 t, .int 255 u] (fun _ r _ => ∃ t', r = .bytes (byteArr [255]) t') := by
  refine PureC.of ?_
  w_top off
  k_fill
  intro mean mg mb dp un gd env outer A₀ base h₀ L m s Q E X B F T hf hk hd hu ret
  (refine wpAny_call ?_; k_dflt (refine' code_defGC (news := []) (binds := [(Str.ofString "length", .int 1 t), (Str.ofString "code", .int 255 u)]) (by assumption) (by assumption) (by assumption) News.nil (by assumption) rfl (by assumption) (by assumption) ?k6 ?k7 ?k8 ?k9 ?kB ?kD ?_ ?c2 ?c3 ?c4; (case k6 => k_is); (case k7 => k_is); (case k8 => (dsimp only [AR]; omega)); (case k9 => exact BindsTo.of_eq rfl); (case kB => exact rfl); (case kD => decide +kernel); (case c2 => exact rfl); (case c3 => exact rfl); (case c4 => exact rfl); k_whole; intro g' L' h' tk' cells' FG' F' N' Y' B' X' T' l1 kG'; clear l1; k_cells Y'; (try simp only [List.cons_append, List.nil_append] at N'); (try dsimp only); (try k_lift B'); (try k_fold)))
  repeat' ((fail_if_success (with_reducible show wpAny _ _ (call (Value.type "bytes") _) _ _ _)); walk_at "one step")
  rename IntsAre _ _ => i8
  have i9 := ints_cast (ms := [255]) i8 (by decide +kernel)
  refine KBa.make_K (by k_asm) (by k_asm) rfl (by is_list) i9 (by intro n hn; rw [List.mem_singleton.mp hn]; decide) (by decide) ?_
  intro h5 t5 k5 F5 N5 _
  (try k_unfold)
  (try dsimp only)
  repeat' ((fail_if_success (with_reducible show LeaveK ..)); walk_at "one step")
  rename Fr _ _ _ _ => F9
  rename News _ _ _ _ => N9
  rename GSub _ _ _ => kG
  refine leaveK_ F9 N9 (fun kF kN => ?_)
  show Q _ _
  exact ret _ _ _ (fun b o e => F9.keep b o (kG b o e List.not_mem_nil)) ⟨_, rfl⟩
set_option maxRecDepth 100000 in
set_option maxHeartbeats 8000000 in
theorem of_c (w : World) (t : Tok) (b : Array UInt8) (o : Int) (hb : KBw.bInts b = [o]) : PureC w 8 64 56 [.bytes b t] (fun _ r _ => ∃ t', r = .int o t') := by
  refine PureC.of ?_
  w_top off
  k_fill
  intro mean mg mb dp un gd env outer A₀ base h₀ L m s Q E X B F T hf hk hd hu ret
  (refine wpAny_call ?_; k_dflt (refine' code_defG (news := []) (binds := [(Str.ofString "octets", .bytes b t)]) (by assumption) (by assumption) (by assumption) News.nil (by assumption) rfl (by assumption) (by assumption) ?k6 ?k7 ?k8 ?k9 ?kB ?_ ?c2 ?c3 ?c4 ?c5; (case k6 => k_is); (case k7 => k_is); (case k8 => (dsimp only [AR]; omega)); (case k9 => exact BindsTo.of_eq rfl); (case c5 => decide); (case kB => exact locs rfl); (case c2 => exact rfl); (case c3 => exact rfl); (case c4 => exact rfl); k_whole; intro g' L' h' FG' F' N' B' X' T' kG'; (try dsimp only); (try k_lift B'); (try k_fold)))
  repeat' ((fail_if_success (with_reducible show wpAny _ _ (exec (PySem.Stmt.For ..) _) _ _ _)); walk_at "one step")
  (rename Fr _ _ _ _ => lF')
  (with_unfolding_all refine' For_invVF lF' ?k1 ?k2 ?_; (case k1 => exact rfl); (case k2 => exact rfl); k_whole)
  repeat' ((fail_if_success (with_reducible show wpAny _ _ (pyIter _) _ _ _)); walk_at "one step")
  refine KBmo.iter_bytesN (fun i m nx => nx = [] ∧ ∃ t, m (Str.ofString "code") = some (.int (([o].take i).foldl (fun a k => 256 * a + k) 0) t)) hb rfl lF' News.nil ⟨rfl, _, by k_dflt exact rfl⟩ ?_ ?_
  · rintro i n t2 m₁ nx h tk own hn n0 n1 hoff ⟨rfl, t1, hw⟩ F₁ N₁
    (try k_fold)
    have hs : ([o].take (i + 1)).foldl (fun a k => 256 * a + k) 0 = 256 * ([o].take i).foldl (fun a k => 256 * a + k) 0 + n := by
      rw [List.take_add_one, hn]; simp [List.foldl_append]
    generalize hV : ([o].take i).foldl (fun a k => 256 * a + k) 0 = V at hw hs
    rw [map_has hw] at F₁
    repeat' ((fail_if_success (with_reducible show InvEndN ..)); walk_at "one step")
    rename Fr _ _ _ _ => F9
    rename News _ _ _ _ => N9
    refine InvEndN.intro (nx := []) F9 N9 ⟨rfl, ?_⟩ rfl (fun _ h => nomatch h) (by simpa using fun p hp => hp)
    rw [hs]
    refine ⟨?tt, ?hh⟩
    case hh => k_dflt exact rfl
  · rintro m₁ nx h tk ⟨rfl, t1, hw⟩ F₁ N₁
    rw [map_has hw] at F₁
    (try dsimp only)
    repeat' ((fail_if_success (with_reducible show LeaveK ..)); walk_at "one step")
    rename Fr _ _ _ _ => F9
    rename News _ _ _ _ => N9
    rename GSub _ _ _ => kG
    refine leaveK_ F9 N9 (fun kF kN => ?_)
    show Q _ _
    exact ret _ _ _ (fun b o e => F9.keep b o (kG b o e List.not_mem_nil)) ⟨_, congrArg (fun c => Value.int c _) (by simp)⟩
set_option maxRecDepth 100000 in
set_option maxHeartbeats 8000000 in
theorem fit_c (w : World) (TP : Addr) (t : Tok) (b : Array UInt8) (ks : List Int) (hb : KBw.bInts b = ks) (h1 : 0 < ks.length) (h2 : ks.length ≤ 1000) (u1 u2 u3 : Tok) (n : Nat) :
    PureN w 16 128 68 [.ref TP, .bytes b t] (fun news => (TP, tupO [.int 1 u1, .int 0 u2, .int 255 u3] n) ∈ news) (fun _ r _ => ∃ t', r = .int 1 t') := by
  refine PureN.of ?_
  w_top off
  k_fill
  intro mean mg mb dp un gd env outer A₀ base h₀ L m news s Q E X B F N mp T hf hk hd hu ret
  refine wpAny_call ?_
  k_dflt (refine' code_defG (news := news) (binds := [(Str.ofString "space", .ref TP), (Str.ofString "octets", .bytes b t)]) B F X N T rfl hf hk ?k6 ?k7 ?k8 ?k9 ?kB ?_ ?c2 ?c3 ?c4 ?c5; (case k6 => k_is); (case k7 => k_is); (case k8 => (dsimp only [AR]; omega)); (case k9 => exact BindsTo.of_eq rfl); (case c5 => decide); (case kB => exact locs rfl); (case c2 => exact rfl); (case c3 => exact rfl); (case c4 => exact rfl); k_whole; intro g' L' h' FG' F' N' B' X' T' kG'; (try dsimp only); (try k_lift B'); (try k_fold))
  repeat' ((fail_if_success (with_reducible show LeaveK ..)); (fail_if_success (with_reducible show wpAny _ _ (call (Value.ref _) _) _ _ _)); walk_at "one step")
  refine (oct_0 w _ _).use (by k_asm) (by k_asm) (by k_asm) (by k_asm) (by k_asm) rfl rfl rfl rfl ?_ ?_ ?_
  · show dp + 1 + 8 < _; omega
  · show un + 3 + 64 < _; omega
  rintro r h3 tk3 F3 N3 k3 ⟨t3, rfl⟩
  (try k_unfold)
  (try dsimp only)
  repeat' ((fail_if_success (with_reducible show LeaveK ..)); (fail_if_success (with_reducible show wpAny _ _ (call (Value.ref _) _) _ _ _)); walk_at "one step")
  refine (oct_255 w _ _).use (by k_asm) (by k_asm) (by k_asm) (by k_asm) (by k_asm) rfl rfl rfl rfl ?_ ?_ ?_
  · show dp + 1 + 8 < _; omega
  · show un + 3 + 64 < _; omega
  rintro r h4 tk4 F4 N4 k4 ⟨t4, rfl⟩
  (try k_unfold)
  (try dsimp only)
  have hb0 : KBw.bInts (byteArr [0]) = [0] := by decide +kernel
  have hb1 : KBw.bInts (byteArr [255]) = [255] := by decide +kernel
  have e0 : ((byteArr [0]).toList.getD (Int.toNat 0) 0).toNat = 0 := by decide +kernel
  have e1 : ((byteArr [255]).toList.getD (Int.toNat 0) 0).toNat = 255 := by decide +kernel
  repeat' ((fail_if_success (with_reducible show LeaveK ..)); (fail_if_success (with_reducible show wpAny _ _ (call (Value.ref _) _) _ _ _)); walk_at "one step")
  all_goals first
    | (exfalso; rename ¬ (_ ≤ _) => hx; rw [e1] at hx; omega)
    | (exfalso; rename ¬ (_ ≤ _) => hx; rw [e0] at hx; omega)
    | (rename Fr _ _ _ _ => F9
       rename News _ _ _ _ => N9
       rename GSub _ _ _ => kG
       refine leaveK_ F9 N9 (fun kF kN => ?_)
       show Q _ _
       exact ret _ _ _ (elt_after (InElt.start _) kG N F9 N9 (fun _ h => h)) ⟨_, rfl⟩)
end Mine
end
section
open PySem PySem.W PyProof.Rows PySem.Calls PySem.Spec PyProof.V PyProof.Rows.LCg
set_option maxHeartbeats 2000000
namespace Mine
/-- the turns of a comprehension over pairs with a test -/
noncomputable def PtRest (prog : Program) (w : World) (A : Around) (h₀ : Heap) (L : Addr) (m : Str → Option Value) (env : Env) (ct elt : Expr) (x y : Str) (scope : Scope) (cl : List (Str × Addr)) (s : Shared) (S : List (Addr × Obj) → Prop) (P : Nat → Value → Prop)
    (Fin : List Value → List (Addr × Obj) → Prop) : Nat → Nat → List Value → List (Addr × Obj) → Prop
  | 0, _, ys, news => Fin ys news
  | k + 1, i, ys, news => ∀ v, P i v → ∃ (t : Addr) (ot : Obj) (a b : Value) (nt : Nat), v = .ref t ∧ (t, ot) ∈ news ∧ ot.cls = .type "tuple" ∧ ot.data = .seq #[a, b] nt ∧
      ∀ I oI C oC D m₂ h tk (E' : Value → Shared → Prop), NsObj oC m₂ → m₂ x = some a → m₂ y = some b → Fr h₀ L h m → News h₀ L h ((I, oI) :: (C, oC) :: (D, lst ys) :: news) → Off3 I C D news → ((@Ne Nat I C) ∧ (@Ne Nat I D) ∧ (@Ne Nat C D)) →
      wpAny (model prog w) A (isTrue ct (compEnvC scope cl C env) (eval ct (compEnvC scope cl C env))) (fun ok s' => if ok = true then
        wpAny (model prog w) A (eval elt (compEnvC scope cl C env)) (CompEnd h₀ L m { s with heap := h, toks := tk } I oI C oC D (lst ys) S (fun z news' => PtRest prog w A h₀ L m env ct elt x y scope cl s S P Fin k (i + 1) (ys ++ [z]) news')) E' s'
        else CompEnd h₀ L m { s with heap := h, toks := tk } I oI C oC D (lst ys) S (fun _ news' => PtRest prog w A h₀ L m env ct elt x y scope cl s S P Fin k (i + 1) ys news') Value.none s') E' { s with heap := h, toks := tk }
/-- what holds between two turns of it -/
inductive PtInv (prog : Program) (w : World) (A : Around) (h₀ : Heap) (L : Addr) (m : Str → Option Value) (env : Env) (ct elt : Expr) (x y : Str) (scope : Scope) (cl : List (Str × Addr)) (s₂ : Shared) (S : List (Addr × Obj) → Prop) (P : Nat → Value → Prop)
    (Fin : List Value → List (Addr × Obj) → Prop) (St : Nat → Heap → Prop) (n : Nat) (I C D : Addr) (k : Nat) (s' : Shared) : Prop
  | mk (h' : Heap) (tk : Nat) (i : Nat) (ys : List Value) (m' : Str → Option Value) (news' : List (Addr × Obj)) (e : s' = { s₂ with heap := h', toks := tk }) (hi : i ≤ n) (hk : k = n + 1 - i) (hyl : ys.length ≤ i) (hst : St i h') (F : Fr h₀ L h' m) (hn : h'.Ns C m')
    (N : News h₀ L h' ((D, lst ys) :: news')) (off : Off3 I C D news') (hS : S news') (R : PtRest prog w A h₀ L m env ct elt x y scope cl s₂ S P Fin (n - i) i ys news')
section
variable {prog : Program} {w : World} {A : Around} {E : Value → Shared → Prop} {s : Shared} {h₀ : Heap} {L : Addr} {m : Str → Option Value} {env : Env}
theorem pt_block {ct elt iter : Expr} {x x₂ : Str} {px px₂ tp : Pos} {tk} {scope : Scope} {cl : List (Str × Addr)} {pos : Pos} {s₂ : Shared} {I : Addr} {fp : List Addr} {n : Nat} {P : Nat → Value → Prop} {St : Nat → Heap → Prop} {S : List (Addr × Obj) → Prop} {news : List (Addr × Obj)}
    {Fin : List Value → List (Addr × Obj) → Prop} {RR : Value → Addr → Result → Shared → Prop}
    (W : Walks prog w A I fp [I] n P St) (hsz : n ≤ sizeLine) (hIo : ∀ i h, St i h → ∃ o, h.get? I = some o)
    (hSt : ∀ i h h' o nw, St i h → h.get? I = some o → h'.get? I = some o → (∀ b o, h₀.get? b = some o → h'.get? b = some o) → News h₀ L h' nw → S nw → St i h')
    (hcell : ∀ y ∈ scope.names, y.2 ≠ .cell) (hkind : scope.kind = .function) (hx : scope.names.lookup x = some .local) (hx₂ : scope.names.lookup x₂ = some .local) (hxx : x ≠ x₂) (hh : A.handled = none) (hLI : ∀ i h, St i h → ∃ l j, h.IsListIter I l j) (hst : St 0 s₂.heap) (hfp : ∀ b ∈ fp, b < s₂.heap.objs.size)
    (F : Fr h₀ L s₂.heap m) (N : News h₀ L s₂.heap news) (hIL : L ≠ I) (hI₀ : h₀.get? I = none) (off : ∀ p ∈ news, p.1 ≠ I) (hS : S news)
    (R : PtRest prog w A h₀ L m env ct elt x x₂ scope cl s₂ S P Fin n 0 [] news)
    (hRR : ∀ D C h tk m' ys news', Fr h₀ L h m → News h₀ L h ((D, lst ys) :: news') → Off1 D news' → h.Ns C m' → h₀.get? C = none → h₀.get? D = none → C ≠ L → D ≠ L → C ≠ D → (∀ p ∈ news', p.1 ≠ C) → Fin ys news' → RR (.ref D) C (.ok .next) { s₂ with heap := h, toks := tk }) :
    wpAny (model prog w) A (newList []) (fun acc s₃ => wpAny (model prog w) A (newFunctionEnv scope env.globals cl [] env.qual none .none (some env)) (fun cenv s₄ =>
      codeAny (model prog w) A (.compStart (.ListComp elt [⟨.Tuple [.Name x px, .Name x₂ px₂] tk tp, iter, [ct], 0⟩] scope pos) 0 (.ref I) acc { cenv with scope := relabel scope env }) (RR acc cenv.locals) s₄) E s₃) E s₂ := by
  refine wpAny_newObj_type (wpAny_newFunctionEnv hcell (by intro y hy; simp at hy) (fun h₁ hns₁ hsb₁ => ?_) hkind)
  dsimp only at hns₁ hsb₁ ⊢
  generalize hH2 : s₂.heap.push { cls := .type "list", dict := none, data := .seq ([] : List Value).toArray } = H2 at hns₁ hsb₁ ⊢
  have hC : H2.objs.size = s₂.heap.objs.size + 1 := by rw [← hH2, Heap.size_push]
  have hDC : s₂.heap.objs.size ≠ H2.objs.size := by rw [hC]; exact Nat.ne_of_lt (Nat.lt_succ_self _)
  have below : ∀ b, b < s₂.heap.objs.size → b ≠ H2.objs.size ∧ b ≠ s₂.heap.objs.size := fun b hb => ⟨by rw [hC]; exact Nat.ne_of_lt (Nat.lt_succ_of_lt hb), Nat.ne_of_lt hb⟩
  have hDf : s₂.heap.objs.size ∉ fp := fun hm => Nat.lt_irrefl _ (hfp _ hm)
  have hCf : H2.objs.size ∉ fp := fun hm => by have := hfp _ hm; rw [hC] at this; exact Nat.lt_irrefl _ (Nat.lt_of_succ_lt this)
  have hIf : I ∈ fp := W.sub I (List.mem_singleton.mpr rfl)
  have hIlt : I < s₂.heap.objs.size := hfp I hIf
  have old : ∀ b o, s₂.heap.get? b = some o → h₁.get? b = some o := fun b o e => hsb₁.extBut b o (below b (Heap.lt_size e)).1 (Heap.get?_push_of_some _ (hH2 ▸ Heap.get?_push_of_some _ e))
  have hacc : h₁.get? s₂.heap.objs.size = some (lst []) := hsb₁.extBut _ _ hDC (Heap.get?_push_of_some _ (hH2 ▸ Heap.get?_push_size _ rfl))
  have hst₁ : St 0 h₁ := W.frame _ _ _ hst fun b _ o e => old b o e
  have fresh : ∀ a, s₂.heap.objs.size ≤ a → s₂.heap.get? a = none := fun a ha => by
    cases e : s₂.heap.get? a with
    | none => rfl
    | some o' => exact absurd (Heap.lt_size e) (Nat.not_lt.mpr ha)
  have fresh₀ : ∀ a, s₂.heap.objs.size ≤ a → h₀.get? a = none := fun a ha => by
    cases e : h₀.get? a with
    | none => rfl
    | some o' => have := F.keep a o' e; rw [fresh a ha] at this; cases this
  have hD₀ : h₀.get? s₂.heap.objs.size = none := fresh₀ _ (Nat.le_refl _)
  have hC₀ : h₀.get? H2.objs.size = none := fresh₀ _ (by rw [hC]; exact Nat.le_succ _)
  have hLlt : L < s₂.heap.objs.size := F.ns.lt
  have hDL : s₂.heap.objs.size ≠ L := Ne.symm (below L hLlt).2
  have hCL : H2.objs.size ≠ L := Ne.symm (below L hLlt).1
  have hCI : I ≠ H2.objs.size := (below I hIlt).1
  have hDI : I ≠ s₂.heap.objs.size := (below I hIlt).2
  have off₀ : Off3 I H2.objs.size s₂.heap.objs.size news := Off3.of fun p hp => ⟨off p hp, (below _ (Heap.lt_size (N p hp).1)).1, (below _ (Heap.lt_size (N p hp).1)).2⟩
  have loop : ∀ s₃ : Shared, s₃ = { s₂ with heap := h₁, toks := s₂.toks + ([] : List (Str × Value)).length } →
      codeAny (model prog w) A (.compLoop (.ListComp elt [⟨.Tuple [.Name x px, .Name x₂ px₂] tk tp, iter, [ct], 0⟩] scope pos) 0 (.ref I) (.ref s₂.heap.objs.size) (compEnvC scope cl H2.objs.size env))
        (RR (.ref s₂.heap.objs.size) H2.objs.size) s₃ := by
    rintro s₃ rfl
    refine kct_loop
      (PtInv prog w A h₀ L m env ct elt x x₂ scope cl s₂ S P Fin St n I H2.objs.size s₂.heap.objs.size) ?_ (n + 1)
      ⟨h₁, _, 0, [], _, news, rfl, Nat.zero_le _, rfl, Nat.le_refl _, hst₁, F.keeps old, hns₁, fun p hp => ?_, off₀, hS, R⟩
    · rintro k s' ⟨h', tk, i, ys, m', news', rfl, hi, rfl, hyl, hst', F', hn', N', off', hS', R'⟩
      by_cases hlt : i < n
      · obtain ⟨j, hj⟩ : ∃ j, n - i = j + 1 := ⟨n - i - 1, by omega⟩
        rw [hj] at R'
        refine W.item i _ _ _ hlt hst' fun v h₂ tk₂ hPv hst₂ hk₂ => ?_
        obtain ⟨t, ot, v₁, v₂, nt, rfl, hmt, hct, hdt, R''⟩ := R' v hPv
        have off3 := off'.mem
        have N₂ : News h₀ L h₂ ((s₂.heap.objs.size, lst ys) :: news') := news_but N' hk₂ fun p hp => by
          rcases List.mem_cons.mp hp with rfl | hp
          · exact Ne.symm hDI
          · exact (off3 p hp).1
        have ht : IsTup h₂ t #[v₁, v₂] := ⟨ot, (N₂ _ (List.mem_cons_of_mem _ hmt)).1, hct, nt, hdt⟩
        obtain ⟨lI, jI, hLi⟩ := hLI _ _ hst₂
        refine wpAny_letOwnedTupleGo_listiter hLi ?_
        refine assign_Tuple_tuple hh ht rfl rfl fun h₅ he => ?_
        have he' : ∀ b o, h₂.get? b = some o → h₅.get? b = some o := fun b o e => he b o (Nat.ne_of_lt (Heap.lt_size e)) e
        refine assignInOrder_cons (wpAny_assign_Name (wpAny_storeName_local (lookup_relabel_local hx) ((hn'.at' fun o e => hk₂ _ o (by simpa using Ne.symm hCI) e).at' fun o e => he' _ o e) (fun h₆ hn₆ hs₆ => ?_) (by simp [compEnvC, relabel, hkind])))
        refine assignInOrder_cons (wpAny_assign_Name (wpAny_storeName_local (lookup_relabel_local hx₂) hn₆ (fun h₃ hn₃ hs₃ => ?_) (by simp [compEnvC, relabel, hkind])))
        refine assignInOrder_nil ?_
        have old3 : ∀ b o, b ≠ H2.objs.size → h₂.get? b = some o → h₃.get? b = some o := fun b o hb e => hs₃.extBut b o hb (hs₆.extBut b o hb (he' b o e))
        have hst₃ : St (i + 1) h₃ := W.frame _ _ _ hst₂ fun b hb o e => old3 b o (fun q => hCf (by rw [← q]; exact hb)) e
        obtain ⟨oI, heI⟩ := hIo _ _ hst₃
        obtain ⟨oC, heC, hoC⟩ := ns_obj hn₃
        have F₃ : Fr h₀ L h₃ m := (((fr_but F' hk₂ hIL hI₀).keeps he').change hs₆ hCL hC₀).change hs₃ hCL hC₀
        have N₃ : News h₀ L h₃ ((I, oI) :: (H2.objs.size, oC) :: (s₂.heap.objs.size, lst ys) :: news') := fun p hp => by
          rcases List.mem_cons.mp hp with rfl | hp
          · exact ⟨heI, Ne.symm hIL, hI₀⟩
          · rcases List.mem_cons.mp hp with rfl | hp
            · exact ⟨heC, hCL, hC₀⟩
            · have z := N₂ p hp
              refine ⟨old3 _ _ ?_ z.1, z.2⟩
              rcases List.mem_cons.mp hp with rfl | hp
              · exact hDC
              · exact (off3 p hp).2.1
        refine wpAny_mono (R'' I oI H2.objs.size oC s₂.heap.objs.size _ h₃ _ _ hoC (by simp [hxx]) (by simp) F₃ N₃ off' ⟨hCI, hDI, Ne.symm hDC⟩) (fun okk s₄ h₄ => ?_) fun _ _ e => e
        cases okk with
        | false =>
          simp only [Bool.false_eq_true, if_false] at h₄ ⊢
          obtain ⟨h₅, tk₄, news₄, rfl, F₄, N₄, off₄, hS₄, R₄⟩ := h₄
          have zI := (N₄ (I, oI) List.mem_cons_self).1
          have zC := (N₄ (H2.objs.size, oC) (List.mem_cons_of_mem _ List.mem_cons_self)).1
          have N₄' : News h₀ L h₅ news₄ := fun p hp => N₄ p (List.mem_cons_of_mem _ (List.mem_cons_of_mem _ (List.mem_cons_of_mem _ hp)))
          have hst₄ : St (i + 1) h₅ := hSt _ _ _ _ _ hst₃ heI zI F₄.keep N₄' hS₄
          refine ⟨n + 1 - (i + 1), by omega, h₅, tk₄, i + 1, ys, _, news₄, rfl, hlt, rfl, Nat.le_succ_of_le hyl, hst₄, F₄, hoC.ns zC, fun p hp => ?_, off₄, hS₄, ?_⟩
          · rcases List.mem_cons.mp hp with rfl | hp
            · exact N₄ _ (List.mem_cons_of_mem _ (List.mem_cons_of_mem _ List.mem_cons_self))
            · exact N₄' p hp
          · rw [show n - (i + 1) = j by omega]
            exact R₄
        | true =>
          simp only [if_true] at h₄ ⊢
          refine wpAny_mono h₄ (fun y s₅ h₅ => ?_) fun _ _ e => e
          obtain ⟨h₄, tk₄, news₄, rfl, F₄, N₄, off₄, hS₄, R₄⟩ := h₅
          have zI := (N₄ (I, oI) List.mem_cons_self).1
          have zC := (N₄ (H2.objs.size, oC) (List.mem_cons_of_mem _ List.mem_cons_self)).1
          have zD := (N₄ (s₂.heap.objs.size, lst ys) (List.mem_cons_of_mem _ (List.mem_cons_of_mem _ List.mem_cons_self))).1
          have N₄' : News h₀ L h₄ news₄ := fun p hp => N₄ p (List.mem_cons_of_mem _ (List.mem_cons_of_mem _ (List.mem_cons_of_mem _ hp)))
          have hst₄ : St (i + 1) h₄ := hSt _ _ _ _ _ hst₃ heI zI F₄.keep N₄' hS₄
          refine append_at (hsz := by show ys.toArray.size ≤ sizeLine; rw [List.size_toArray]; exact Nat.le_trans (Nat.le_trans hyl hi) hsz) zD fun h₅ hs₅ hD₅ => ?_
          have off4 := off₄.mem
          refine ⟨n + 1 - (i + 1), by omega, h₅, tk₄, i + 1, ys ++ [y], _, news₄, rfl, hlt, rfl, by rw [List.length_append, List.length_singleton]; exact Nat.succ_le_succ hyl, W.frame _ _ _ hst₄ fun b hb o e => hs₅.extBut b o (fun q => hDf (q ▸ hb)) e, F₄.change hs₅ hDL hD₀,
            (hoC.ns zC).sameBut hs₅ (Ne.symm hDC), fun p hp => ?_, off₄, hS₄, ?_⟩
          · rcases List.mem_cons.mp hp with rfl | hp
            · exact ⟨hD₅.trans (congrArg some (lst_snoc ys y)), hDL, hD₀⟩
            · exact ⟨hs₅.extBut _ _ (off4 p hp).2.2 (N₄' p hp).1, (N₄' p hp).2⟩
          · rw [show n - (i + 1) = j by omega]
            exact R₄
      · obtain rfl : i = n := Nat.le_antisymm hi (Nat.not_lt.mp hlt)
        rw [Nat.sub_self] at R'
        refine W.done _ _ _ hst' fun h₂ tk₂ hk₂ => ?_
        have off3 := off'.mem
        exact hRR _ _ h₂ tk₂ _ ys news' (fr_but F' hk₂ hIL hI₀) (news_but N' hk₂ fun p hp => by
          rcases List.mem_cons.mp hp with rfl | hp
          · exact Ne.symm hDI
          · exact (off3 p hp).1) off'.one (hn'.at' fun o e => hk₂ _ o (by simpa using Ne.symm hCI) e) hC₀ hD₀ hCL hDL (Ne.symm hDC) (fun p hp => (off3 p hp).2.1) R'
    · rcases List.mem_cons.mp hp with rfl | hp
      · exact ⟨hacc, hDL, hD₀⟩
      · exact ⟨old _ _ (N p hp).1, (N p hp).2⟩
  exact codeAny_compStart_list (loop _ rfl) (W.self 0 _ _ _ hst₁ (loop _ rfl))
/-- the source of a comprehension over pairs with a test: a list of the ledger -/
noncomputable def PtSrc (prog : Program) (w : World) (A : Around) (h₀ : Heap) (L : Addr) (m : Str → Option Value) (env : Env) (ct elt : Expr) (x x₂ : Str) (scope : Scope) (cl : List (Str × Addr)) (Fin : Shared → List Value → List (Addr × Obj) → Prop) (xv : Value) (s₁ : Shared) : Prop :=
  ∃ ax its news, xv = .ref ax ∧ A.handled = none ∧ Fr h₀ L s₁.heap m ∧ News h₀ L s₁.heap news ∧ SrcAt h₀ ax its news ∧ its.size ≤ sizeLine ∧
    ∀ s₂ : Shared, (∃ h, s₂ = { s₁ with heap := h }) → PtRest prog w A h₀ L m env ct elt x x₂ scope cl s₂ (SrcAt h₀ ax its) (fun i v => its[i]? = some v) (Fin s₂) its.size 0 [] news
theorem PtSrc.ledger {ct elt : Expr} {x x₂ : Str} {scope : Scope} {cl : List (Str × Addr)} {Fin : Shared → List Value → List (Addr × Obj) → Prop} {ax : Addr} {its : Array Value} {k : Nat} {news : List (Addr × Obj)} {s₁ : Shared}
    (hh : A.handled = none) (F : Fr h₀ L s₁.heap m) (N : News h₀ L s₁.heap news) (hm : (ax, ({ cls := .type "list", data := .seq its k } : Obj)) ∈ news) (hsz : its.size ≤ sizeLine)
    (h : ∀ g, PtRest prog w A h₀ L m env ct elt x x₂ scope cl { s₁ with heap := g } (SrcAt h₀ ax its) (fun i v => its[i]? = some v) (Fin { s₁ with heap := g }) its.size 0 [] news) :
    PtSrc prog w A h₀ L m env ct elt x x₂ scope cl Fin (.ref ax) s₁ := ⟨ax, its, news, rfl, hh, F, N, .inr ⟨_, hm, rfl, _, rfl⟩, hsz, fun _ ⟨g, e⟩ => e ▸ h g⟩
theorem pt_Assign {ct elt iter : Expr} {x x₂ y : Str} {px px₂ tp py : Pos} {tk} {scope : Scope} {cl : List (Str × Addr)} {pos spos : Pos} {Q : Flow → Shared → Prop} (F₀ : Fr h₀ L s.heap m) (hLe : env.locals = L)
    (hsw : swapsWith (.ListComp elt [⟨.Tuple [.Name x px, .Name x₂ px₂] tk tp, iter, [ct], 0⟩] scope pos) (some (.Name y py)) spos.line env = pure true)
    (hclos : closureFor scope env = pure cl) (hcell : ∀ z ∈ scope.names, z.2 ≠ .cell) (hkind : scope.kind = .function)
    (hnames : ∀ z ∈ scope.names, z.2 = .local → scope.names.lookup z.1 = some .local) (hx : scope.names.lookup x = some .local) (hx₂ : scope.names.lookup x₂ = some .local) (hxx : x ≠ x₂)
    (hy : env.kindOf y = some .local) (hp : (env.scope.kind == .class || (env.scope.kind == .module && env.locals != env.globals)) = false)
    (h : wpAny (model prog w) A (eval iter env) (PtSrc prog w A h₀ L m env ct elt x x₂ scope cl (fun s₂ => FinA h₀ L m s₂ y Q)) E s)
    (hs : ∀ x, foldedSetIterable iter env x = pure x := by intro _; rfl) :
    wpAny (model prog w) A (exec (.Assign [.Name y py] (.ListComp elt [⟨.Tuple [.Name x px, .Name x₂ px₂] tk tp, iter, [ct], 0⟩] scope pos) spos) env) Q E s := by
  subst hLe
  rw [exec_Assign_Name_used _ _ _ _ hsw]
  refine wpAny_bind (wpAny_standAt (wpAny_bind ?_))
  show wpAny _ A (do let _ ← comprehension (.ListComp elt [⟨.Tuple [.Name x px, .Name x₂ px₂] tk tp, iter, [ct], 0⟩] scope pos) scope env _ (newList []) false (eval iter env) (some (assign (.Name y py) env))) _ _ s
  refine wpAny_bind (wpAny_mono (wpAny_comprehension_free (use := some (assign (.Name y py) env)) (Q := fun _ s' => Q .next s') rfl hs hclos hkind hnames
    (wpAny_mono h (fun xv s₁ h₁ => ?_) fun _ _ e => e)) (fun _ s' hq => wpAny_pure (wpAny_pure hq)) fun _ _ e => e)
  obtain ⟨ax, its, news, rfl, hh, F, N, S, hsz, R⟩ := h₁
  · have hl := S.list F.keep N
    have hlt : ax < s₁.heap.objs.size := by obtain ⟨_, e, _⟩ := hl; exact Heap.lt_size e
    refine wpAny_pyIter_list hl ?_
    have up : ∀ b o, s₁.heap.get? b = some o → (s₁.heap.push { cls := .type "list_iterator", data := .fields #[.ref ax, .int 0 0] }).get? b = some o := fun b o e => Heap.get?_push_of_some _ e
    refine pt_block (Walks.list hh s₁.heap.objs.size ax (Nat.ne_of_lt hlt) its) hsz (fun i h st => by obtain ⟨o, e, _⟩ := st.1; exact ⟨o, e⟩) list_st hcell hkind hx hx₂ hxx hh (fun i h st => ⟨_, _, st.1⟩) ⟨⟨_, Heap.get?_push_size _ rfl, rfl, rfl⟩, hl.push _⟩ (fun b hb => ?_)
      (F.keeps up) (N.grown up) (Nat.ne_of_lt F.ns.lt) (next_is_new F) (fun p hp => Nat.ne_of_lt (Heap.lt_size (N p hp).1)) S (R _ ⟨_, rfl⟩) ?_
    · show b < (s₁.heap.push _).objs.size
      rw [Heap.size_push]
      rcases List.mem_cons.mp hb with rfl | hb
      · exact Nat.lt_succ_self _
      · rw [List.mem_singleton.mp hb]; exact Nat.lt_succ_of_lt hlt
    · intro D C h' tk m' ys news' F' N' o1 hn hC₀ hD₀ hCL hDL hCD offC fin
      show wpAny _ A (assign (.Name y py) env (.ref D)) _ _ _
      refine wpAny_assign_Name (wpAny_storeName_local hy F'.ns (fun h₂ hn₂ hs₂ => ?_) hp)
      have hL₀ : h₀.get? env.locals = none := Heap.get?_none_of_le F'.above
      have F₂ : Fr h₀ env.locals h₂ (fun z => if z = y then some (.ref D) else m z) := ⟨hn₂, fun b o e => hs₂.extBut b o (fun q => by rw [q, hL₀] at e; cases e) (F'.keep b o e), F'.above⟩
      refine ⟨m', hn.sameBut hs₂ hCL, fun h'' hs'' => fin D h'' _ (F₂.change hs'' hCL hC₀) (fun p hp => ?_) o1⟩
      have z : h₂.get? p.1 = some p.2 := hs₂.extBut _ _ (N' p hp).2.1 (N' p hp).1
      refine ⟨hs''.extBut _ _ ?_ z, (N' p hp).2⟩
      rcases List.mem_cons.mp hp with rfl | hp
      · exact Ne.symm hCD
      · exact offC p hp
/-- the end of a turn that has made one object -/
theorem end_one {I C D R : Addr} {s₁ : Shared} {oI oC oD o : Obj} {S : List (Addr × Obj) → Prop} {rest : Value → List (Addr × Obj) → Prop} {y : Value} {h' : Heap} {tk : Nat} {news : List (Addr × Obj)}
    (F : Fr h₀ L h' m) (N : News h₀ L h' ((R, o) :: (I, oI) :: (C, oC) :: (D, oD) :: news)) (hI : I < R) (hC : C < R) (hD : D < R) (off : Off3 I C D news) (hS : S ((R, o) :: news)) (r : rest y ((R, o) :: news)) :
    CompEnd h₀ L m s₁ I oI C oC D oD S rest y { s₁ with heap := h', toks := tk } := by
  refine CompEnd.intro F N ((R, o) :: news) ?_ ⟨⟨Nat.ne_of_gt hI, Nat.ne_of_gt hC, Nat.ne_of_gt hD⟩, off⟩ hS r
  intro p hp
  simp only [List.mem_cons] at hp ⊢
  rcases hp with h | h | h | h | h
  · exact .inr (.inl h)
  · exact .inr (.inr (.inl h))
  · exact .inr (.inr (.inr (.inl h)))
  · exact .inl h
  · exact .inr (.inr (.inr (.inr h)))
end
end Mine
end
section
open PySem PySem.W PyProof.Rows PySem.Spec PyProof.V
namespace Mine
set_option maxRecDepth 100000 in
set_option maxHeartbeats 8000000 in
theorem nl_c (w : World) (SP TP : Addr) (t : Tok) (b : Array UInt8) (ks : List Int) (hb : KBw.bInts b = ks) (h1 : 0 < ks.length) (h2 : ks.length ≤ 1000) (u1 u2 u3 : Tok) (n n2 : Nat) :
    PureN w 24 192 73 [.ref SP, .bytes b t] (fun news => (TP, tupO [.int 1 u1, .int 0 u2, .int 255 u3] n) ∈ news ∧ (SP, W.listOf #[.ref TP] n2) ∈ news) (fun _ r _ => ∃ t', r = .int 1 t') := by
  refine PureN.of ?_
  w_top off
  k_fill
  intro mean mg mb dp un gd env outer A₀ base h₀ L m news s Q E X B F N ⟨mp, mq⟩ T hf hk hd hu ret
  refine wpAny_call ?_
  k_dflt (refine' code_defGC (news := news) (binds := [(Str.ofString "spaces", .ref SP), (Str.ofString "octets", .bytes b t)]) B F X N T rfl hf hk ?k6 ?k7 ?k8 ?k9 ?kB ?kD ?_ ?c2 ?c3 ?c4; (case k6 => k_is); (case k7 => k_is); (case k8 => (dsimp only [AR]; omega)); (case k9 => exact BindsTo.of_eq rfl); (case kB => exact rfl); (case kD => decide +kernel); (case c2 => exact rfl); (case c3 => exact rfl); (case c4 => exact rfl); k_whole; intro g' L' h' tk' cells' FG' F' N' Y' B' X' T' l1 kG'; k_cells Y'; (try simp only [List.cons_append, List.nil_append] at N'); (try dsimp only); (try k_lift B'); (try k_fold))
  repeat' ((fail_if_success (with_reducible show LeaveK ..)); (fail_if_success (with_reducible show wpAny _ _ (call (Value.ref _) _) _ _ _)); walk_at "one step")
  rename News _ _ _ _ => N8

  refine wpAny_truthy_list (items := #[.ref TP]) (by exact News.isList (n := n2) N8 (.tail _ (.tail _ mq))) (by simp) ?_
  (try k_unfold)
  (try dsimp only)
  repeat' ((fail_if_success (with_reducible show LeaveK ..)); (fail_if_success (with_reducible show wpAny _ _ (call (Value.ref _) _) _ _ _)); (fail_if_success (with_reducible show wpAny _ _ (exec (PySem.Stmt.Assign (_ :: _) (PySem.Expr.ListComp ..) ..) _) _ _ _)); (fail_if_success (with_reducible show wpAny _ _ (execs _ _) _ _ _)); walk_at "one step")
  all_goals first
    | (exfalso; rename _ = true => hx; exact absurd hx (by simp))
    | skip
  repeat' ((fail_if_success (with_reducible show LeaveK ..)); (fail_if_success (with_reducible show wpAny _ _ (call (Value.ref _) _) _ _ _)); (fail_if_success (with_reducible show wpAny _ _ (exec (PySem.Stmt.Assign (_ :: _) (PySem.Expr.ListComp ..) ..) _) _ _ _)); walk_at "one step")
  k_dflt (refine LCg.Assign_ListComp_U (F₀ := by k_asm) (by rfl) (by with_unfolding_all rfl) (by with_unfolding_all rfl) (by decide) (by rfl) (by decide) (by rfl) (by rfl) (by rfl) ?_)
  repeat' ((fail_if_success (with_reducible show LCg.CompSrc ..)); walk_at "one step")
  refine LCg.CompSrc.ledger (its := #[.ref TP]) (k := n2) rfl (by k_asm) N8 (.tail _ (.tail _ mq)) (by show 1 ≤ sizeLine; decide) ?_
  intro g1
  refine LCg.CompRest.succ ?_
  intro v I oI C oC D m₂ h3 tk3 E' hv hC hx F3 N3 off3 ne3
  have hv' : v = .ref TP := by simpa using hv.symm
  subst hv'
  rw [map_has hx] at hC
  (try k_unfold)
  (try dsimp only)
  repeat' ((fail_if_success (with_reducible show LeaveK ..)); (fail_if_success (with_reducible show wpAny _ _ (call (Value.ref _) _) _ _ _)); walk_at "one step")
  refine (fit_c w TP t b ks hb h1 h2 u1 u2 u3 n).use (by k_asm) (by k_asm) (by k_asm) (.tail _ (.tail _ (.tail _ (.tail _ (.tail _ mp))))) (by k_asm) (by k_asm) rfl rfl rfl rfl ?_ ?_ ?_
  · show dp + 1 + 16 < _; omega
  · show un + 3 + 128 < _; omega
  rintro r h4 tk4 F4 N4 k4 ⟨t4, rfl⟩
  (try k_unfold)
  (try dsimp only)
  repeat' ((fail_if_success (with_reducible show LeaveK ..)); (fail_if_success (with_reducible show wpAny _ _ (call (Value.ref _) _) _ _ _)); (fail_if_success (with_reducible show LCg.CompRest ..)); walk_at "one step")
  refine item_tupleL (j := 0) (x := .int 1 u1) (l := [.int 1 u1, .int 0 u2, .int 255 u3]) (by exact News.isTup (n := n) N4 (.tail _ (.tail _ (.tail _ (.tail _ (.tail _ mp)))))) (by decide) (by decide) rfl rfl ?_
  repeat' ((fail_if_success (with_reducible show LeaveK ..)); (fail_if_success (with_reducible show wpAny _ _ (call (Value.ref _) _) _ _ _)); (fail_if_success (with_reducible show LCg.CompRest ..)); walk_at "one step")
  rename Fr _ _ _ _ => F5
  rename News _ _ _ _ => N5
  rename _ ∧ _ ∧ _ ∧ _ ∧ _ ∧ _ => l5
  rename_i D5 h5
  refine end_one F5 N5 l5.1 l5.2.1 l5.2.2.1 off3 (Or.inr ⟨_, .tail _ (.tail _ (.tail _ mq)), rfl, _, rfl⟩) ?_
  refine LCg.CompRest.zero ?_
  intro D2 h6 tk6 F6 N6 o6
  simp only [LCg.Off1] at o6
  (try k_unfold)
  (try dsimp only)
  repeat' ((fail_if_success (with_reducible show LeaveK ..)); (fail_if_success (with_reducible show wpAny _ _ (call (Value.ref _) _) _ _ _)); (fail_if_success (with_reducible show LCg.CompRest ..)); (fail_if_success (with_reducible show wpAny _ _ (exec (PySem.Stmt.Assign (_ :: _) (PySem.Expr.ListComp ..) ..) _) _ _ _)); walk_at "one step")
  k_dflt (refine pt_Assign (F₀ := by k_asm) (by rfl) (by with_unfolding_all rfl) (by with_unfolding_all rfl) (by decide) (by rfl) (by decide) (by rfl) (by rfl) (by decide) (by rfl) (by rfl) ?_)
  repeat' ((fail_if_success (with_reducible show Mine.PtSrc ..)); walk_at "one step")
  refine PtSrc.ledger (its := ([] ++ [Value.ref D5]).toArray) (k := 1) rfl (by k_asm) N6 (.head _) (by show 1 ≤ sizeLine; decide) ?_
  intro g2
  show PtRest _ _ _ _ _ _ _ _ _ _ _ _ _ _ _ _ _ 1 _ _ _
  intro v' hv'
  have hv2 := Option.some.inj hv'
  subst hv2
  refine ⟨_, _, _, _, _, rfl, .tail _ (.head _), rfl, rfl, ?_⟩
  intro I3 oI3 C3 oC3 D3 m3 h7 tk7 E3 hC3 hx3 hy3 F7 N7 off7 ne7
  (try k_unfold)
  (try dsimp only)
  repeat' ((fail_if_success (with_reducible show LeaveK ..)); (fail_if_success (with_reducible show wpAny _ _ (call (Value.ref _) _) _ _ _)); (fail_if_success (with_reducible show LCg.CompEnd ..)); walk_at "one step")
  refine LCg.CompEnd.intro F7 N7 _ (fun _ h => h) off7 (Or.inr ⟨_, .head _, rfl, _, rfl⟩) ?_
  intro D8 h8 tk8 F8 N8' o8
  simp only [LCg.Off1] at o8
  (try k_unfold)
  (try dsimp only)
  repeat' ((fail_if_success (with_reducible show LeaveK ..)); (fail_if_success (with_reducible show wpAny _ _ (call (Value.ref _) _) _ _ _)); walk_at "one step")
  rename Fr _ _ _ _ => F9
  rename News _ _ _ _ => N9
  rename GSub _ _ _ => kG
  rename _ = (1 : Int) => hM
  subst hM
  refine leaveK_ F9 N9 (fun kF kN => ?_)
  show Q _ _
  refine ret _ _ _ (elt_after (InElt.start _) kG N F9 N9 ?_) ⟨_, rfl⟩
  intro p hp
  simp only [List.mem_cons]
  simp only [hp, or_true]
end Mine
end
section
open PySem PySem.W PyProof.Rows PySem.Spec PyProof.V
namespace Mine
local macro_rules | `(tactic| k_mem) => `(tactic| ((show @Membership.mem (Addr × Obj) (List (Addr × Obj)) _ _ _); ktr_member))
/-- pairs of a one and a number, by a ledger -/
noncomputable def PairsIn (ps : List (Addr × Obj)) (vs : List Value) (os : List Int) : Prop :=
  vs.length = os.length ∧ ∀ (i : Nat) (o : Int), os[i]? = some o → ∃ (p : Addr) (t a : Tok) (n : Nat), vs[i]? = some (.ref p) ∧ (p, tupO [.int 1 a, .int o t] n) ∈ ps
/-- a new list of new pairs -/
noncomputable def NewPairs (os : List Int) (h0 : Heap) (r : Value) (h' : Heap) : Prop :=
  ∃ (D : Addr) (vs : List Value) (n : Nat) (ps : List (Addr × Obj)), r = .ref D ∧ h0.get? D = none ∧ h'.get? D = some (W.listOf vs.toArray n) ∧ (∀ q ∈ ps, h0.get? q.1 = none ∧ h'.get? q.1 = some q.2) ∧ PairsIn ps vs os
theorem PairsIn.nil : PairsIn [] [] [] := ⟨rfl, fun _ _ h => by cases h⟩
theorem PairsIn.snoc {ps : List (Addr × Obj)} {vs : List Value} {os : List Int} (h : PairsIn ps vs os) {p : Addr} {o : Int} {t a : Tok} {n : Nat} : PairsIn ((p, tupO [.int 1 a, .int o t] n) :: ps) (vs ++ [.ref p]) (os ++ [o]) := by
  refine ⟨by simp [h.1], fun i o' ho => ?_⟩
  by_cases hi : i < os.length
  · rw [List.getElem?_append_left hi] at ho
    obtain ⟨p', t', a', n', h1, h2⟩ := h.2 i o' ho
    exact ⟨p', t', a', n', by rw [List.getElem?_append_left (by rw [h.1]; exact hi)]; exact h1, .tail _ h2⟩
  · have hi' : i = os.length := by
      have := (List.getElem?_eq_some_iff.mp ho).1
      simp at this; omega
    subst hi'
    have e : o' = o := by simpa using ho.symm
    subst e
    exact ⟨p, t, a, n, by rw [← h.1]; simp, .head _⟩
/-- split_codes between two turns -/
inductive SplitJ (CM LF : Addr) (b : Array UInt8) (t : Tok) (ks : List Int) (news : List (Addr × Obj)) (n : Nat) (m₁ : Str → Option Value) (nw : List (Addr × Obj)) : Prop
  | mk (i : Nat) (vs : List Value) (ps : List (Addr × Obj)) (nn : Nat) (t1 : Tok) (e : n = ks.length - i) (hi : i ≤ ks.length) (en : nw = (LF, W.listOf vs.toArray nn) :: (ps ++ news)) (hP : PairsIn ps vs (ks.take i)) (hps : ∀ q ∈ ps, (∀ p ∈ news, p.1 < q.1) ∧ LF < q.1)
    (e1 : m₁ (Str.ofString "found") = some (.ref LF)) (e2 : m₁ (Str.ofString "place") = some (.int i t1)) (e3 : m₁ (Str.ofString "cmap") = some (.ref CM)) (e4 : m₁ (Str.ofString "octets") = some (.bytes b t))
set_option maxRecDepth 100000 in
set_option maxHeartbeats 8000000 in
theorem split_c (w : World) (CM dM SP TP : Addr) (cv2 : Value) (g1 g2 : Int) (u1 u2 u3 u4 u5 : Tok) (n1 n2 n3 : Nat) (t : Tok) (b : Array UInt8) (ks : List Int) (hb : KBw.bInts b = ks) (hks : ks.length ≤ 1000) :
    PureN w 32 256 80 [.ref CM, .bytes b t] (fun news => (CM, instObj 45 dM) ∈ news ∧ (dM, dictOf [⟨g1, .str (Str.ofString "spaces") u1, .ref SP⟩, ⟨g2, .str (Str.ofString "chars") u2, cv2⟩] n1) ∈ news ∧ (SP, W.listOf #[.ref TP] n2) ∈ news ∧ (TP, tupO [.int 1 u3, .int 0 u4, .int 255 u5] n3) ∈ news) (NewPairs ks) := by
  refine PureN.of ?_
  w_top off
  k_fill
  intro mean mg mb dp un gd env outer A₀ base h₀ L m news s Q E X B F N ⟨mc, md, mq, mp⟩ T hf hk hd hu ret
  refine wpAny_call ?_
  k_dflt (refine' code_defG (news := news) (binds := [(Str.ofString "cmap", .ref CM), (Str.ofString "octets", .bytes b t)]) B F X N T rfl hf hk ?k6 ?k7 ?k8 ?k9 ?kB ?_ ?c2 ?c3 ?c4 ?c5; (case k6 => k_is); (case k7 => k_is); (case k8 => (dsimp only [AR]; omega)); (case k9 => exact BindsTo.of_eq rfl); (case c5 => decide); (case kB => exact locs rfl); (case c2 => exact rfl); (case c3 => exact rfl); (case c4 => exact rfl); k_whole; intro g' L' h' FG' F' N' B' X' T' kG'; (try dsimp only); (try k_lift B'); (try k_fold))
  repeat' ((fail_if_success (with_reducible show LeaveK ..)); (fail_if_success (with_reducible show wpAny _ _ (call (Value.ref _) _) _ _ _)); (fail_if_success (with_reducible show wpAny _ _ (exec (PySem.Stmt.While ..) _) _ _ _)); walk_at "one step")
  rename Fr _ _ _ _ => F1
  rename News _ _ _ _ => N1
  rename ∀ (p : Addr × Obj), p ∈ news → p.fst < _ => l1
  rename_i LF _ _ _
  refine While_inv (n₀ := ks.length) (SplitJ CM LF b t ks news) F1 N1 ⟨0, [], [], 0, ?tk1, rfl, Nat.zero_le _, rfl, .nil, (fun _ h => nomatch h), ?f1, ?f2, ?f3, ?f4⟩ ?turn
  case f1 => k_dflt exact rfl
  case f2 => k_dflt exact rfl
  case f3 => k_dflt exact rfl
  case f4 => k_dflt exact rfl
  rintro n m₁ nw h2 tk2 F2 N2 ⟨i, vs, ps, nn, t1, rfl, hi, rfl, hP, hps, e1, e2, e3, e4⟩
  rw [map_has e1, map_has e2, map_has e3, map_has e4] at F2
  clear F1 N1
  have mc2 := List.mem_append_right ps mc
  have md2 := List.mem_append_right ps md
  have mq2 := List.mem_append_right ps mq
  have mp2 := List.mem_append_right ps mp
  have hoff : ∀ p ∈ ps ++ news, p.1 ≠ LF := fun p hp => (List.mem_append.mp hp).elim (fun h => Nat.ne_of_gt (hps p h).2) (fun h => Nat.ne_of_lt (l1 p h))
  generalize hnw : ps ++ news = nw2 at N2 mc2 md2 mq2 mp2 hoff
  (try dsimp only)
  repeat' ((fail_if_success (with_reducible show LeaveK ..)); (fail_if_success (with_reducible show wpAny _ _ (call (Value.ref _) _) _ _ _)); (fail_if_success (with_reducible show wpAny _ _ (exec (PySem.Stmt.While ..) _) _ _ _)); walk_at "one step")
  · rename KBw.bInts (KBy.picked _ _ _) = _ => kb
    rename (i : Int) < _ => hlt
    have hi2 : i < ks.length := by omega
    have hmin : min i ks.length = i := Nat.min_eq_left hi
    have hclip : clipAt ks.length ((i : Int) + 4) = min (i + 4) ks.length := by
      have := clipAt_nat ks.length (i + 4)
      simpa using this
    rw [hmin, hclip] at kb
    obtain ⟨o, ho⟩ : ∃ o, ks[i]? = some o := ⟨ks[i], by simp⟩
    obtain ⟨rest, hr, hr3⟩ : ∃ rest : List Int, List.take (min (i + 4) ks.length - i) (List.drop i ks) = o :: rest ∧ rest.length ≤ 3 := by
      have e1 : List.drop i ks = o :: List.drop (i + 1) ks := by
        rw [List.drop_eq_getElem_cons hi2]; congr 1
        rw [List.getElem?_eq_getElem hi2] at ho; exact Option.some.inj ho
      obtain ⟨j, hj⟩ : ∃ j, min (i + 4) ks.length - i = j + 1 := ⟨min (i + 4) ks.length - i - 1, by omega⟩
      refine ⟨List.take j (List.drop (i + 1) ks), ?_, by simp; omega⟩
      rw [e1, hj]; rfl
    rw [hr] at kb
    refine (nl_c w SP TP _ _ _ kb (by simp) (by simp; omega) u3 u4 u5 n3 n2).use (by k_asm) (by k_asm) (by k_asm) ⟨.tail _ mp2, .tail _ mq2⟩ (by k_asm) (by k_asm) rfl rfl rfl rfl ?_ ?_ ?_
    · show dp + 1 + 24 < _; omega
    · show un + 3 + 192 < _; omega
    rintro r h4 tk4 F4 N4 k4 ⟨t4, rfl⟩
    (try k_unfold)
    (try dsimp only)
    repeat' ((fail_if_success (with_reducible show LeaveK ..)); (fail_if_success (with_reducible show wpAny _ _ (call (Value.ref _) _) _ _ _)); walk_at "one step")
    rename KBw.bInts (KBy.picked (KBy.picked _ _ _) _ _) = _ => kb2
    have hc1 : clipAt (o :: rest).length 1 = 1 := (KBc.clip_lit _ 1).trans (Nat.min_eq_left (by simp))
    have kb3 := kb2.trans (show _ = [o] by rw [hc1]; rfl)
    refine (of_c w _ _ o kb3).use (by k_asm) (by k_asm) (by k_asm) (by k_asm) (by k_asm) rfl rfl rfl rfl ?_ ?_ ?_
    · show dp + 1 + 8 < _; omega
    · show un + 3 + 64 < _; omega
    rintro r h5 tk5 F5 N5 k5 ⟨t5, rfl⟩
    (try k_unfold)
    (try dsimp only)
    have hm : ((min (clipAt (o :: rest).length 1) (o :: rest).length : Nat) : Int) = 1 := by rw [hc1]; simp
    rw [hm]
    repeat' ((fail_if_success (with_reducible show LeaveK ..)); (fail_if_success (with_reducible show wpAny _ _ (call (Value.builtin "list.append") _) _ _ _)); walk_at "one step")
    rename Fr _ _ _ _ => F6
    rename News _ _ _ _ => N6
    rename _ ∧ _ => l6
    rename_i D6 h6
    refine append_K F6 N6 (.tail (Nat.ne_of_gt l6.1) (.head hoff)) ?_ (by show vs.toArray.size ≤ sizeLine; rw [List.size_toArray, hP.1]; simp; exact Nat.le_trans (by omega) (show 1000 ≤ sizeLine by decide))
    intro h7 F7 N7
    (try k_unfold)
    (try dsimp only)
    repeat' ((fail_if_success (with_reducible show LeaveK ..)); (fail_if_success (with_reducible show WhileStep ..)); walk_at "one step")
    rename Fr _ _ _ _ => F9
    rename News _ _ _ _ => N9
    have hsum : (i : Int) + (([o] : List Int).length : Int) = ((i + 1 : Nat) : Int) := by simp
    obtain ⟨ta, N10⟩ : ∃ ta : Tok, News g' L' _ ((D6, tupO [.int 1 ta, .int o t5] 0) :: (LF, W.listOf (vs.toArray.push (.ref D6)) (nn + 1)) :: nw2) := ⟨_, N9⟩
    subst hnw
    have hts : ks.take (i + 1) = ks.take i ++ [o] := by rw [List.take_add_one, ho]; rfl
    refine WhileStep.intro F9 (fun p hp => N10 p ?hin) (show ks.length - (i + 1) < _ by omega) ⟨i + 1, vs ++ [.ref D6], (D6, tupO [.int 1 ta, .int o t5] 0) :: ps, nn + 1, ?tt, rfl, hi2, rfl, ?hp, ?hq, ?f1, ?f2, ?f3, ?f4⟩
    case hin =>
      show p ∈ (D6, tupO [.int 1 ta, .int o t5] 0) :: (LF, W.listOf (vs.toArray.push (.ref D6)) (nn + 1)) :: (ps ++ news)
      have ep : (vs ++ [Value.ref D6]).toArray = vs.toArray.push (.ref D6) := by simp
      simp only [ep, List.mem_cons, List.cons_append] at hp ⊢
      rcases hp with h | h | h
      · exact .inr (.inl h)
      · exact .inl h
      · exact .inr (.inr h)
    case hp => rw [hts]; exact hP.snoc
    case hq =>
      intro q hq
      rcases List.mem_cons.mp hq with rfl | hq
      · exact ⟨fun p hp => ktn_ltOf l6.2 p (List.mem_append_right _ hp), l6.1⟩
      · exact hps q hq
    case f1 => k_dflt exact rfl
    case f2 => k_dflt exact congrArg (fun c => some (Value.int c _)) hsum
    case f3 => k_dflt exact rfl
    case f4 => k_dflt exact rfl
  · (try dsimp only)
    (try k_unfold)
    (try dsimp only)
    repeat' ((fail_if_success (with_reducible show LeaveK ..)); walk_at "one step")
    rename (i : Int) < _ → False => hge
    have hi3 : i = ks.length := by omega
    subst hi3
    rw [List.take_length] at hP
    rename Fr _ _ _ _ => F9
    rename News _ _ _ _ => N9
    rename GSub _ _ _ => kG
    subst hnw
    refine leaveK_ F9 N9 (fun kF kN => ?_)
    show Q _ _
    have fresh : ∀ D o, (D, o) ∈ (LF, W.listOf vs.toArray nn) :: (ps ++ news) → D ∉ news.map (·.1) → s.heap.get? D = none := fun D o hm hD => fresh_in kG hD N9 hm
    refine ret _ _ _ (elt_after (InElt.start _) kG N F9 N9 (fun p hp => .tail _ (List.mem_append_right _ hp))) ⟨LF, vs, nn, ps, rfl, fresh LF _ (.head _) ?_, (N9 _ (.head _)).1, fun q hq => ⟨fresh q.1 q.2 (.tail _ (List.mem_append_left _ hq)) ?_, (N9 q (.tail _ (List.mem_append_left _ hq))).1⟩, hP⟩
    · intro hc
      obtain ⟨p, hp, e⟩ := List.mem_map.mp hc
      exact Nat.ne_of_lt (l1 p hp) e
    · intro hc
      obtain ⟨p, hp, e⟩ := List.mem_map.mp hc
      exact Nat.ne_of_lt ((hps q hq).1 p hp) e
end Mine
end
section
open PySem PySem.W PyProof.Rows PySem.Spec PyProof.V
namespace Mine
local macro_rules | `(tactic| k_mem) => `(tactic| ((show @Membership.mem (Addr × Obj) (List (Addr × Obj)) _ _ _); ktr_member))
theorem off1_mem {D : Addr} : ∀ {l : List (Addr × Obj)}, LCg.Off1 D l → ∀ p ∈ l, p.1 ≠ D
  | [], _, _, h => nomatch h
  | _ :: _, x, p, h => by
    rcases List.mem_cons.mp h with rfl | h
    · exact x.1
    · exact off1_mem x.2 p h
theorem byte_at {b : Array UInt8} {ks : List Int} (hb : KBw.bInts b = ks) {i : Nat} {n : UInt8} (h : b[i]? = some n) : ks[i]? = some (n.toNat : Int) := by
  subst hb
  simp [KBw.bInts, h]
theorem NewPairs.down {os : List Int} {h0 h1 : Heap} {r : Value} {h' : Heap} (k : ∀ b o, h0.get? b = some o → h1.get? b = some o) (x : NewPairs os h1 r h') : NewPairs os h0 r h' := by
  have up : ∀ D, h1.get? D = none → h0.get? D = none := fun D h => by
    cases e : h0.get? D with
    | none => rfl
    | some o => rw [k D o e] at h; cases h
  obtain ⟨D, vs, n, ps, e, hD, hD', hq, hP⟩ := x
  exact ⟨D, vs, n, ps, e, up D hD, hD', fun q h => ⟨up _ (hq q h).1, (hq q h).2⟩, hP⟩
set_option maxRecDepth 100000 in
set_option maxHeartbeats 8000000 in
theorem codes_w (w : World) (xF : Addr) (t : Tok) (b : Array UInt8) (ks : List Int) (hb : KBw.bInts b = ks) (hks : ks.length ≤ 1000) (um : Option (List (PyData × PyData))) (names : List Str) :
    PureN w 48 384 144 [.ref xF, .bytes b t] (fun news => FontAt w news xF true um names) (NewPairs ks) := by
  refine PureN.of ?_
  w_top off
  k_fill
  intro mean mg mb dp un gd env outer A₀ base h₀ L m news s Q E X B F N hp T hf hk hd hu ret
  obtain ⟨dF, NL, vs, n6, n7, uv, cv, r4, r5, r6, r7, h1, h2, h3, h4, h5, h6, h7, t1, t2, t3, t4, t5, t6, t7, mx, md, mn, hvs, hc, hu'⟩ := hp
  obtain - | ⟨CT, CM, EL, dM, SP, TP, m1, m2, m3, m4, g1, g2, u1, u2, u3, u4, u5, cv2, mct, mcm, mdm, msp, mtp⟩ := hc
  refine wpAny_call ?_
  k_dflt (refine' code_defG (news := news) (binds := [(Str.ofString "self", .ref xF), (Str.ofString "octets", .bytes b t)]) B F X N T rfl hf hk ?k6 ?k7 ?k8 ?k9 ?kB ?_ ?c2 ?c3 ?c4 ?c5; (case k6 => k_is); (case k7 => k_is); (case k8 => (dsimp only [AR]; omega)); (case k9 => exact BindsTo.of_eq rfl); (case c5 => decide); (case kB => exact locs rfl); (case c2 => exact rfl); (case c3 => exact rfl); (case c4 => exact rfl); k_whole; intro g' L' h' FG' F' N' B' X' T' kG'; (try dsimp only); (try k_lift B'); (try k_fold))
  repeat' ((fail_if_success (with_reducible show LeaveK ..)); (fail_if_success (with_reducible show wpAny _ _ (call (Value.ref _) _) _ _ _)); walk_at "one step")
  rename Fr _ _ _ _ => F1
  rename News _ _ _ _ => N1
  rename GSub _ _ _ => kG
  have kk := elt_after (InElt.start _) kG N F1 N1 (fun _ h => h)
  refine (split_c w CM dM SP TP cv2 g1 g2 u1 u2 u3 u4 u5 m2 m3 m4 t b ks hb hks).use (by k_asm) (by k_asm) (by k_asm) ⟨mcm, mdm, msp, mtp⟩ (by k_asm) (by k_asm) rfl rfl rfl rfl ?_ ?_ ?_
  · show dp + 1 + 32 < _; omega
  · show un + 3 + 256 < _; omega
  rintro r h5 tk5 F5 N5 k5 hr
  (try k_unfold)
  (try dsimp only)
  repeat' ((fail_if_success (with_reducible show LeaveK ..)); (fail_if_success (with_reducible show wpAny _ _ (call (Value.ref _) _) _ _ _)); walk_at "one step")
  rename Fr _ _ _ _ => F9
  rename News _ _ _ _ => N9
  rename GSub _ _ _ => kG
  refine leaveK_ F9 N9 (fun kF kN => ?_)
  show Q _ _
  exact ret _ _ _ (elt_after (InElt.start _) kG N F9 N9 (fun _ h => h)) (hr.down kk)
set_option maxRecDepth 100000 in
set_option maxHeartbeats 8000000 in
theorem codes_n (w : World) (xF : Addr) (t : Tok) (b : Array UInt8) (ks : List Int) (hb : KBw.bInts b = ks) (hks : ks.length ≤ 1000) (um : Option (List (PyData × PyData))) (names : List Str) :
    PureN w 48 384 144 [.ref xF, .bytes b t] (fun news => FontAt w news xF false um names) (NewPairs ks) := by
  refine PureN.of ?_
  w_top off
  k_fill
  intro mean mg mb dp un gd env outer A₀ base h₀ L m news s Q E X B F N hp T hf hk hd hu ret
  obtain ⟨dF, NL, vs, n6, n7, uv, cv, r4, r5, r6, r7, h1, h2, h3, h4, h5, h6, h7, t1, t2, t3, t4, t5, t6, t7, mx, md, mn, hvs, hc, hu'⟩ := hp
  obtain rfl := hc.narrow
  refine wpAny_call ?_
  k_dflt (refine' code_defG (news := news) (binds := [(Str.ofString "self", .ref xF), (Str.ofString "octets", .bytes b t)]) B F X N T rfl hf hk ?k6 ?k7 ?k8 ?k9 ?kB ?_ ?c2 ?c3 ?c4 ?c5; (case k6 => k_is); (case k7 => k_is); (case k8 => (dsimp only [AR]; omega)); (case k9 => exact BindsTo.of_eq rfl); (case c5 => decide); (case kB => exact locs rfl); (case c2 => exact rfl); (case c3 => exact rfl); (case c4 => exact rfl); k_whole; intro g' L' h' FG' F' N' B' X' T' kG'; (try dsimp only); (try k_lift B'); (try k_fold))
  repeat' ((fail_if_success (with_reducible show LeaveK ..)); (fail_if_success (with_reducible show wpAny _ _ (call (Value.ref _) _) _ _ _)); (fail_if_success (with_reducible show wpAny _ _ (eval (PySem.Expr.ListComp ..) _) _ _ _)); walk_at "one step")
  have hbl : b.size = ks.length := by subst hb; simp [KBw.bInts]
  k_dflt (refine ListComp_W (_F₀ := by k_asm) (by with_unfolding_all rfl) (by decide) (by rfl) (by decide) (by rfl) ?_)
  repeat' ((fail_if_success (with_reducible show wpAny _ _ (pyIter _) _ _ _)); walk_at "one step")
  rename Fr _ _ _ _ => F1
  rename News _ _ _ _ => N1
  refine CompW.bytes rfl F1 N1 (by rw [hbl]; exact Nat.le_trans hks (by decide)) ?_
  intro g2
  refine rest_inv (fun i vs nw => ∃ ps, nw = ps ++ news ∧ PairsIn ps vs (ks.take i) ∧ ∀ q ∈ ps, ∀ p ∈ news, p.1 < q.1) ?_ ⟨[], rfl, .nil, fun _ h => nomatch h⟩ ?_
  · rintro i v ys nw I oI C oC D m₂ h3 tk3 E' hi ⟨n, u, hn, rfl⟩ ⟨ps, rfl, hP, hps⟩ hC hx F3 N3 off3 ne3
    (try k_unfold)
    (try dsimp only)
    repeat' ((fail_if_success (with_reducible show LeaveK ..)); (fail_if_success (with_reducible show wpAny _ _ (call (Value.ref _) _) _ _ _)); (fail_if_success (with_reducible show LCg.CompEnd ..)); walk_at "one step")
    rename Fr _ _ _ _ => F6
    rename News _ _ _ _ => N6
    rename _ ∧ _ ∧ _ ∧ _ => l6
    have ho := byte_at hb hn
    have hts : ks.take (i + 1) = ks.take i ++ [(n.toNat : Int)] := by rw [List.take_add_one, ho]; rfl
    refine end_one F6 N6 l6.1 l6.2.1 l6.2.2.1 off3 trivial ⟨(_, _) :: ps, rfl, ?_, ?_⟩
    · rw [hts]; exact hP.snoc
    · intro q hq p hp
      rcases List.mem_cons.mp hq with rfl | hq
      · exact ktn_ltOf l6.2.2.2 p (List.mem_append_right _ hp)
      · exact hps q hq p hp
  · rintro ys nw ⟨ps, rfl, hP, hps⟩
    rw [hbl, List.take_length] at hP
    intro D7 h7 tk7 F7 N7 o7
    (try k_unfold)
    (try dsimp only)
    repeat' ((fail_if_success (with_reducible show LeaveK ..)); (fail_if_success (with_reducible show wpAny _ _ (call (Value.ref _) _) _ _ _)); walk_at "one step")
    rename Fr _ _ _ _ => F9
    rename News _ _ _ _ => N9
    rename GSub _ _ _ => kG
    refine leaveK_ F9 N9 (fun kF kN => ?_)
    show Q _ _
    have fresh : ∀ D o, (D, o) ∈ (D7, LCg.lst ys) :: (ps ++ news) → D ∉ news.map (·.1) → s.heap.get? D = none := fun D o hm hD => fresh_in kG hD N9 hm
    refine ret _ _ _ (elt_after (InElt.start _) kG N F9 N9 (fun p hp => .tail _ (List.mem_append_right _ hp))) ⟨D7, ys, ys.length, ps, rfl, fresh D7 _ (.head _) ?_, (N9 _ (.head _)).1, fun q hq => ⟨fresh q.1 q.2 (.tail _ (List.mem_append_left _ hq)) ?_, (N9 q (.tail _ (List.mem_append_left _ hq))).1⟩, hP⟩
    · intro hc
      obtain ⟨p, hp, e⟩ := List.mem_map.mp hc
      exact off1_mem o7 p (List.mem_append_right _ hp) e
    · intro hc
      obtain ⟨p, hp, e⟩ := List.mem_map.mp hc
      exact Nat.ne_of_lt (hps q hq p hp) e
theorem codes_c (w : World) (xF : Addr) (t : Tok) (b : Array UInt8) (ks : List Int) (hb : KBw.bInts b = ks) (hks : ks.length ≤ 1000) (wide : Bool) (um : Option (List (PyData × PyData))) (names : List Str) :
    PureN w 48 384 144 [.ref xF, .bytes b t] (fun news => FontAt w news xF wide um names) (NewPairs ks) := by
  cases wide with
  | true => exact codes_w w xF t b ks hb hks um names
  | false => exact codes_n w xF t b ks hb hks um names
end Mine
end
section
open PySem PySem.W PyProof.Rows PySem.Spec PyProof.V
namespace Mine
local macro_rules | `(tactic| k_mem) => `(tactic| ((show @Membership.mem (Addr × Obj) (List (Addr × Obj)) _ _ _); ktr_member))
noncomputable def nmA (k : Nat) : Str := nms.getD k Str.empty
noncomputable def txA (k : Nat) : Str := txs.getD k Str.empty
noncomputable def strOf (d : Option PyData) (y : Str) : Str := match d with
  | some (.str z) => z
  | _ => y
/-- what a code is due -/
noncomputable def dueT (wide : Bool) (um : Option (List (PyData × PyData))) (cs : List Nat) (o : Int) : Str :=
  strOf (um.bind fun D => lookup (mapK o) D) (if wide then Str.ofString "" else txA (cs.getD o.toNat 0))
noncomputable def StrMap (um : Option (List (PyData × PyData))) : Prop := ∀ D, um = some D → ∀ k v, lookup k D = some v → ∃ z, v = .str z ∧ z.length ≤ 4
noncomputable def CodesOk (cs : List Nat) : Prop := cs.length = 256 ∧ ∀ k ∈ cs, k < 9
theorem nm_at {cs : List Nat} (hc : CodesOk cs) {o : Int} (h1 : o.toNat < 256) : ∃ k, cs.getD o.toNat 0 = k ∧ nms[k]? = some (nmA k) ∧ txs[k]? = some (txA k) ∧ (cs.map nmA)[o.toNat]? = some (nmA k) := by
  have hl : o.toNat < cs.length := by rw [hc.1]; exact h1
  have hk := hc.2 _ (List.getElem_mem hl)
  refine ⟨cs[o.toNat], by simp [hl], ?_, ?_, by simp [hl]⟩
  · generalize cs[o.toNat] = k at hk
    match k, hk with
    | 0, _ | 1, _ | 2, _ | 3, _ | 4, _ | 5, _ | 6, _ | 7, _ | 8, _ => rfl
  · generalize cs[o.toNat] = k at hk
    match k, hk with
    | 0, _ | 1, _ | 2, _ | 3, _ | 4, _ | 5, _ | 6, _ | 7, _ | 8, _ => rfl
theorem text_c (w : World) (xF pr : Addr) (o : Int) (wide : Bool) (um : Option (List (PyData × PyData))) (cs : List Nat) (a t : Tok) (n : Nat) (hm : StrMap um) (hc : CodesOk cs) (h0 : 0 ≤ o) (h1 : o.toNat < 256) :
    PureN w 40 320 158 [.ref xF, .ref pr] (fun news => FontAt w news xF wide um (cs.map nmA) ∧ (pr, tupO [.int 1 a, .int o t] n) ∈ news) (fun _ r _ => ∃ t', r = .str (dueT wide um cs o) t') := by
  obtain ⟨k, hk, hn, hy, hx⟩ := nm_at hc h1
  cases um with
  | none =>
    cases wide with
    | true => exact text_2 w xF pr o _ a t n
    | false =>
      have e : dueT false none cs o = txA k := by show txA (cs.getD o.toNat 0) = txA k; rw [hk]
      rw [e]
      exact text_1 w xF pr o _ k _ _ a t n h0 (by omega) hx hn hy
  | some D =>
    cases hD : lookup (mapK o) D with
    | none =>
      have e : dueT wide (some D) cs o = if wide then Str.ofString "" else txA k := by
        show strOf (lookup (mapK o) D) _ = _
        rw [hD, hk]; rfl
      rw [e]
      cases wide with
      | true => exact text_4 w xF pr o D _ a t n hD
      | false => exact text_3 w xF pr o D _ k _ _ a t n h0 (by omega) hx hn hy hD
    | some v =>
      obtain ⟨z, rfl, _⟩ := hm D rfl _ _ hD
      have e : dueT wide (some D) cs o = z := by
        show strOf (lookup (mapK o) D) _ = _
        rw [hD]; rfl
      rw [e]
      exact text_5 w xF pr o wide D _ z a t n hD
theorem tab_mono {K : Type} [DecidableEq K] {prog : Program} {w : World} {knd : KeyKind prog w K} {enc : K → PyData} {news news' : List (Addr × Obj)} {d : Addr} {D : List (PyData × PyData)} (k : ∀ p ∈ news, p ∈ news') (T : TupTab knd enc news d D) : TupTab knd enc news' d D := by
  obtain ⟨lo, o, es, ep, xs, m, h1, h2, h3, h4, h5, h6⟩ := T
  exact ⟨lo, o, es, ep, xs, k _ m, h1, h2, h3, h4, (fun x hx => let ⟨ok, a, b⟩ := h5 x hx; ⟨ok, k _ a, b⟩), h6⟩
theorem dueT_len {wide : Bool} {um : Option (List (PyData × PyData))} {cs : List Nat} (hm : StrMap um) (hc : CodesOk cs) {o : Int} (h1 : o.toNat < 256) : (dueT wide um cs o).length ≤ 4 := by
  obtain ⟨k, hk, _, hy, _⟩ := nm_at hc h1
  have hbase : (if wide then Str.ofString "" else txA (cs.getD o.toNat 0)).length ≤ 4 := by
    cases wide with
    | true => show (Str.ofString "").length ≤ 4; decide
    | false =>
      show (txA (cs.getD o.toNat 0)).length ≤ 4
      rw [hk]
      have hk9 : k < 9 := (List.getElem?_eq_some_iff.mp hy).1
      match k, hk9 with
      | 0, _ | 1, _ | 2, _ | 3, _ | 4, _ | 5, _ | 6, _ | 7, _ | 8, _ => decide
  unfold dueT
  cases um with
  | none => exact hbase
  | some D =>
    show (strOf (lookup (mapK o) D) _).length ≤ 4
    cases hD : lookup (mapK o) D with
    | none => exact hbase
    | some v =>
      obtain ⟨z, rfl, hz⟩ := hm D rfl _ _ hD
      exact hz
theorem due_weight {wide : Bool} {um : Option (List (PyData × PyData))} {cs : List Nat} (hm : StrMap um) (hc : CodesOk cs) {ks : List Int} (hks : ks.length ≤ 100) (hk0 : ∀ o ∈ ks, 0 ≤ o ∧ o.toNat < 256) : ((ks.map (dueT wide um cs)).map (·.length)).sum + (ks.map (dueT wide um cs)).length ≤ 1048576 := by
  have h := StrLaws.sumLen_le (B := 4) (ks.map (dueT wide um cs)) (fun y hy => by
    obtain ⟨o, ho, rfl⟩ := List.mem_map.mp hy
    exact dueT_len hm hc (hk0 o ho).2)
  rw [List.length_map] at *
  omega
theorem CutAt.mono {news news' : List (Addr × Obj)} {wide : Bool} {cv : Value} (k : ∀ p ∈ news, p ∈ news') (h : CutAt news wide cv) : CutAt news' wide cv := by
  cases h with
  | no => exact .no
  | cut CT CM EL dM SP TP n1 n2 n3 n4 g1 g2 u1 u2 u3 u4 u5 cv2 h1 h2 h3 h4 h5 => exact .cut CT CM EL dM SP TP n1 n2 n3 n4 g1 g2 u1 u2 u3 u4 u5 cv2 (k _ h1) (k _ h2) (k _ h3) (k _ h4) (k _ h5)
theorem UniAt.mono {w : World} {news news' : List (Addr × Obj)} {um : Option (List (PyData × PyData))} {uv : Value} (k : ∀ p ∈ news, p ∈ news') (h : UniAt w news um uv) : UniAt w news' um uv := by
  cases h with
  | no => exact .no
  | map D UM dU CH n1 g1 g2 u1 u2 sp h1 h2 h3 => exact .map D UM dU CH n1 g1 g2 u1 u2 sp (k _ h1) (k _ h2) (tab_mono k h3)
theorem FontAt.mono {w : World} {news news' : List (Addr × Obj)} {xF : Addr} {wide : Bool} {um : Option (List (PyData × PyData))} {names : List Str} (k : ∀ p ∈ news, p ∈ news') (x : FontAt w news xF wide um names) : FontAt w news' xF wide um names := by
  cases x with
  | mk dF NL vs n n7 uv cv r4 r5 r6 r7 h1 h2 h3 h4 h5 h6 h7 t1 t2 t3 t4 t5 t6 t7 m1 m2 m3 m4 m5 m6 => exact ⟨dF, NL, vs, n, n7, uv, cv, r4, r5, r6, r7, h1, h2, h3, h4, h5, h6, h7, t1, t2, t3, t4, t5, t6, t7, k _ m1, k _ m2, k _ m3, m4, m5.mono k, m6.mono k⟩
theorem news_freshs {h₀ h h' : Heap} {L : Addr} {m : Str → Option Value} {news : List (Addr × Obj)} (F : Fr h₀ L h m) (N : News h₀ L h' news) : ∀ {ps : List (Addr × Obj)}, (∀ q ∈ ps, h.get? q.1 = none ∧ h'.get? q.1 = some q.2) → News h₀ L h' (ps ++ news)
  | [], _ => N
  | (D, _) :: _, k => news_fresh F (k _ (.head _)).1 (k _ (.head _)).2 (news_freshs F N fun q hq => k q (.tail _ hq))
theorem news_put {h₀ h h' : Heap} {L : Addr} {m : Str → Option Value} {c : Addr × Obj} {news : List (Addr × Obj)} (F : Fr h₀ L h m) (N : News h₀ L h' (c :: news)) {ps : List (Addr × Obj)} (k : ∀ q ∈ ps, h.get? q.1 = none ∧ h'.get? q.1 = some q.2) : News h₀ L h' (c :: (ps ++ news)) := by
  intro p hp
  rcases List.mem_cons.mp hp with rfl | hp
  · exact N _ (.head _)
  · exact news_freshs F (fun q hq => N q (.tail _ hq)) k p hp
set_option maxRecDepth 100000 in
set_option maxHeartbeats 8000000 in
theorem stext_c (w : World) (xF : Addr) (t : Tok) (b : Array UInt8) (ks : List Int) (hb : KBw.bInts b = ks) (hks : ks.length ≤ 100) (hk0 : ∀ o ∈ ks, 0 ≤ o ∧ o.toNat < 256) (wide : Bool) (um : Option (List (PyData × PyData))) (cs : List Nat) (hm : StrMap um) (hc : CodesOk cs) :
    PureN w 64 512 170 [.ref xF, .bytes b t] (fun news => FontAt w news xF wide um (cs.map nmA)) (fun _ r _ => ∃ t', r = .str (Txt.join (Str.ofString "") (ks.map (dueT wide um cs))) t') := by
  refine PureN.of ?_
  w_top off
  k_fill
  intro mean mg mb dp un gd env outer A₀ base h₀ L m news s Q E X B F N hp T hf hk hd hu ret
  refine wpAny_call ?_
  k_dflt (refine' code_defGC (news := news) (binds := [(Str.ofString "font", .ref xF), (Str.ofString "octets", .bytes b t)]) B F X N T rfl hf hk ?k6 ?k7 ?k8 ?k9 ?kB ?kD ?_ ?c2 ?c3 ?c4; (case k6 => k_is); (case k7 => k_is); (case k8 => (dsimp only [AR]; omega)); (case k9 => exact BindsTo.of_eq rfl); (case kB => exact rfl); (case kD => decide +kernel); (case c2 => exact rfl); (case c3 => exact rfl); (case c4 => exact rfl); k_whole; intro g' L' h' tk' cells' FG' F' N' Y' B' X' T' l1 kG'; k_cells Y'; (try simp only [List.cons_append, List.nil_append] at N'); (try dsimp only); (try k_lift B'); (try k_fold))
  repeat' ((fail_if_success (with_reducible show LeaveK ..)); (fail_if_success (with_reducible show wpAny _ _ (call (Value.ref _) _) _ _ _)); (fail_if_success (with_reducible show wpAny _ _ (eval (PySem.Expr.ListComp ..) _) _ _ _)); walk_at "one step")
  k_dflt (refine LCg.ListComp_U (F₀ := by k_asm) (by with_unfolding_all rfl) (by decide) (by rfl) (by decide) (by rfl) ?_)
  have hp1 := hp
  obtain ⟨dF, NL, vs, n6, n7, uv, cv, r4, r5, r6, r7, h1, h2, h3, h4, h5, h6, h7, t1, t2, t3, t4, t5, t6, t7, mx, md, mn, hvs, hc', hu'⟩ := hp1
  repeat' ((fail_if_success (with_reducible show LCg.CompSrc ..)); (fail_if_success (with_reducible show wpAny _ _ (call (Value.ref _) _) _ _ _)); walk_at "one step")
  rename Fr _ _ _ _ => F1
  rename News _ _ _ _ => N1
  refine (codes_c w xF t b ks hb (by omega) wide um (cs.map nmA)).use (by k_asm) (by exact F1) (by exact N1) (FontAt.mono (fun p h => .tail _ h) hp) (by k_asm) (by k_asm) rfl rfl rfl rfl ?_ ?_ ?_
  · show dp + 1 + 48 < _; omega
  · show un + 3 + 384 < _; omega
  rintro r h3 tk3 F3 N3 k3 ⟨D, vs2, nD, ps, rfl, hD0, hD, hq, hP⟩
  have N4 := news_fresh F1 hD0 hD (news_put F1 N3 hq)
  have hf2 := FontAt.mono (news' := ps ++ news) (fun p h => List.mem_append_right _ h) hp
  have hps2 : ∀ q ∈ ps, q ∈ ps ++ news := fun q h => List.mem_append_left _ h
  have kN2 : ∀ q ∈ news, q ∈ ps ++ news := fun q h => List.mem_append_right _ h
  generalize ps ++ news = nw2 at N4 hf2 hps2 kN2
  clear N1 N3 F1
  refine LCg.CompSrc.ledger (its := vs2.toArray) (k := nD) rfl F3 N4 (.head _) (by show vs2.toArray.size ≤ sizeLine; rw [List.size_toArray, hP.1]; exact Nat.le_trans hks (by decide)) ?_
  intro g4
  refine rest_strs (ks.map (dueT wide um cs)) (by rw [List.size_toArray, hP.1, List.length_map]) ?_ ?_
  · intro i v rr ys I oI C oC Dd m₂ h4 tk4 E' hi hv hr hC hx F5 N5 off5 ne5
    have hi2 : i < ks.length := by rw [List.size_toArray, hP.1] at hi; exact hi
    obtain ⟨p, tp, ta, np, hvp, hpp⟩ := hP.2 i ks[i] (by simp)
    have hv2 : v = .ref p := by
      have hv' : vs2[i]? = some v := by simpa using hv
      rw [hv'] at hvp; exact Option.some.inj hvp
    subst hv2
    have hrr : rr = dueT wide um cs ks[i] := by
      rw [List.getElem?_map, List.getElem?_eq_getElem hi2] at hr
      exact (Option.some.inj hr).symm
    subst hrr
    have hz := hk0 _ (List.getElem_mem hi2)
    have hf3 := hf2
    obtain ⟨dF, NL, vs, n6, n7, uv, cv, r4, r5, r6, r7, h1, h2, h3, h4, h5, h6, h7, t1, t2, t3, t4, t5, t6, t7, mx, md, mn, hvs, hc', hu'⟩ := hf3
    (try k_unfold)
    (try dsimp only)
    repeat' ((fail_if_success (with_reducible show LeaveK ..)); (fail_if_success (with_reducible show wpAny _ _ (call (Value.ref _) _) _ _ _)); (fail_if_success (with_reducible show LCg.CompEnd ..)); walk_at "one step")
    refine (text_c w xF p ks[i] wide um cs ta tp np hm hc hz.1 hz.2).use (by k_asm) (by k_asm) (by k_asm) ⟨FontAt.mono (fun _ h => .tail _ (.tail _ (.tail _ (.tail _ (.tail _ h))))) hf2, .tail _ (.tail _ (.tail _ (.tail _ (.tail _ (hps2 _ hpp)))))⟩ (by k_asm) (by k_asm) rfl rfl rfl rfl ?_ ?_ ?_
    · show dp + 1 + 40 < _; omega
    · show un + 3 + 320 < _; omega
    rintro r h6 tk6 F6 N6 k6 ⟨t6, rfl⟩
    (try k_unfold)
    (try dsimp only)
    repeat' ((fail_if_success (with_reducible show LeaveK ..)); (fail_if_success (with_reducible show wpAny _ _ (call (Value.ref _) _) _ _ _)); (fail_if_success (with_reducible show LCg.CompEnd ..)); walk_at "one step")
    exact LCg.CompEnd.intro F6 N6 _ (fun _ h => h) off5 (Or.inr ⟨_, .head _, rfl, _, rfl⟩) (TxEl.mk rfl rfl rfl)
  · intro ys hys
    intro D7 h7 tk7 F7 N7 o7
    (try k_unfold)
    (try dsimp only)
    repeat' ((fail_if_success (with_reducible show LeaveK ..)); (fail_if_success (with_reducible show wpAny _ _ (call (Value.ref _) _) _ _ _)); walk_at "one step")
    refine join_listW (News.isList N7 (.head _)) hys (by decide) (due_weight hm hc hks hk0) ?_
    intro tj kj
    (try k_unfold)
    (try dsimp only)
    repeat' ((fail_if_success (with_reducible show LeaveK ..)); (fail_if_success (with_reducible show wpAny _ _ (call (Value.ref _) _) _ _ _)); walk_at "one step")
    rename GSub _ _ _ => kG
    refine leaveK_ F7 N7 (fun kF kN => ?_)
    show Q _ _
    exact ret _ _ _ (elt_after (InElt.start _) kG N F7 N7 (fun p h => .tail _ (.tail _ (.tail _ (kN2 p h))))) ⟨_, rfl⟩
end Mine
end
section
open PySem PySem.W PyProof.Rows PySem.Spec PyProof.V
namespace Mine
set_option maxRecDepth 100000 in
set_option maxHeartbeats 8000000 in
theorem cmap_c (w : World) (v1 v2 : Value) (mean : ExcName → Option Value) (mg mb : Str → Option Value) (dp un : Nat) (gd : Option (List Code)) (env : Env) (outer : List Env) (A₀ : Around) (base h₀ : Heap) (L : Addr) (m : Str → Option Value) (news : List (Addr × Obj)) (s : Shared) (Q E : Value → Shared → Prop)
    (X : Frag.In (Mine.K w.params) h₀) (B : Below A₀ base outer h₀) (F : Fr h₀ L s.heap m) (N : News h₀ L s.heap news)
    (T : Top hd.view_39 (looseW hd.view_39 [Str.ofString "OTHER_CODES"]) mean mg mb h₀) (hf : env.frame = some L) (hk : env.scope.kind = .function) (hd : dp + 16 < recursionLimit) (hu : un + 128 < cLine)
    (ret : ∀ x d g1 g2 u1 u2 n h' tk', Fr h₀ L h' m → News h₀ L h' ((x, instObj 45 d) :: (d, dictOf [⟨g1, .str (Str.ofString "spaces") u1, v1⟩, ⟨g2, .str (Str.ofString "chars") u2, v2⟩] n) :: news) → AllLt d news → d < x → Q (.ref x) { s with heap := h', toks := tk' }) :
    wpAny (model Mine.rw.row.prog w) (AR dp un gd env outer) (call (.ref 45) [v1, v2]) Q E s := by
  revert X N
  w_top off
  k_fill
  intro X N
  k_dflt (refine' call_cls ?k1 ?k2 ?k3 ?k4 ?k5 ?k6 ?_; (case k1 => k_asm); (case k2 => k_asm); (case k3 => k_asm); (case k4 => k_is); (case k5 => k_is); (case k6 => k_is); k_whole)
  intro x d h1 F1 N1 l1 l2
  (try k_lt l1)
  (try k_lt2 l2)
  k_dflt (refine' code_defG (news := (x, instObj 45 d) :: (d, dictOf [] 0) :: news) (binds := [(Str.ofString "self", .ref x), (Str.ofString "spaces", v1), (Str.ofString "chars", v2)]) B F1 X N1 T rfl hf hk ?k6 ?k7 ?k8 ?k9 ?kB ?_ ?c2 ?c3 ?c4 ?c5; (case k6 => k_is); (case k7 => k_is); (case k8 => (show dp + 1 < _; omega)); (case k9 => exact BindsTo.of_eq rfl); (case c5 => decide); (case kB => exact locs rfl); (case c2 => exact rfl); (case c3 => exact rfl); (case c4 => exact rfl); k_whole; intro g' L' h' FG' F' N' B' X' T' kG'; (try dsimp only); (try k_lift B'); (try k_fold))
  repeat' ((fail_if_success (with_reducible show LeaveK ..)); walk_at "one step")
  (try k_unfold)
  rename Fr _ _ _ _ => F9
  rename News _ _ _ _ => N9
  refine leaveK_ F9 N9 (fun kF kN => ?_)
  refine ⟨rfl, ?_⟩
  exact ret x d _ _ _ _ _ _ _ kF kN (allLt_of l1) l2
set_option maxRecDepth 100000 in
set_option maxHeartbeats 8000000 in
theorem font_c (w : World) (v1 v2 v3 v4 v5 v6 v7 : Value) (mean : ExcName → Option Value) (mg mb : Str → Option Value) (dp un : Nat) (gd : Option (List Code)) (env : Env) (outer : List Env) (A₀ : Around) (base h₀ : Heap) (L : Addr) (m : Str → Option Value) (news : List (Addr × Obj)) (s : Shared) (Q E : Value → Shared → Prop)
    (X : Frag.In (Mine.K w.params) h₀) (B : Below A₀ base outer h₀) (F : Fr h₀ L s.heap m) (N : News h₀ L s.heap news)
    (T : Top hd.view_39 (looseW hd.view_39 [Str.ofString "OTHER_CODES"]) mean mg mb h₀) (hf : env.frame = some L) (hk : env.scope.kind = .function) (hd : dp + 16 < recursionLimit) (hu : un + 128 < cLine)
    (ret : ∀ x d g1 g2 g3 g4 g5 g6 g7 u1 u2 u3 u4 u5 u6 u7 n h' tk', Fr h₀ L h' m → News h₀ L h' ((x, instObj 161 d) :: (d, dictOf [⟨g1, .str (Str.ofString "names") u1, v1⟩, ⟨g2, .str (Str.ofString "cutting") u2, v2⟩, ⟨g3, .str (Str.ofString "unicode") u3, v3⟩, ⟨g4, .str (Str.ofString "rows") u4, v4⟩, ⟨g5, .str (Str.ofString "default") u5, v5⟩, ⟨g6, .str (Str.ofString "unit") u6, v6⟩, ⟨g7, .str (Str.ofString "standard") u7, v7⟩] n) :: news) → AllLt d news → d < x → Q (.ref x) { s with heap := h', toks := tk' }) :
    wpAny (model Mine.rw.row.prog w) (AR dp un gd env outer) (call (.ref 161) [v1, v2, v3, v4, v5, v6, v7]) Q E s := by
  revert X N
  w_top off
  k_fill
  intro X N
  k_dflt (refine' call_cls ?k1 ?k2 ?k3 ?k4 ?k5 ?k6 ?_; (case k1 => k_asm); (case k2 => k_asm); (case k3 => k_asm); (case k4 => k_is); (case k5 => k_is); (case k6 => k_is); k_whole)
  intro x d h1 F1 N1 l1 l2
  (try k_lt l1)
  (try k_lt2 l2)
  k_dflt (refine' code_defG (news := (x, instObj 161 d) :: (d, dictOf [] 0) :: news) (binds := [(Str.ofString "self", .ref x), (Str.ofString "names", v1), (Str.ofString "cutting", v2), (Str.ofString "unicode", v3), (Str.ofString "rows", v4), (Str.ofString "default", v5), (Str.ofString "unit", v6), (Str.ofString "standard", v7)]) B F1 X N1 T rfl hf hk ?k6 ?k7 ?k8 ?k9 ?kB ?_ ?c2 ?c3 ?c4 ?c5; (case k6 => k_is); (case k7 => k_is); (case k8 => (show dp + 1 < _; omega)); (case k9 => exact BindsTo.of_eq rfl); (case c5 => decide); (case kB => exact locs rfl); (case c2 => exact rfl); (case c3 => exact rfl); (case c4 => exact rfl); k_whole; intro g' L' h' FG' F' N' B' X' T' kG'; (try dsimp only); (try k_lift B'); (try k_fold))
  repeat' ((fail_if_success (with_reducible show LeaveK ..)); walk_at "one step")
  (try k_unfold)
  rename Fr _ _ _ _ => F9
  rename News _ _ _ _ => N9
  refine leaveK_ F9 N9 (fun kF kN => ?_)
  refine ⟨rfl, ?_⟩
  exact ret x d _ _ _ _ _ _ _ _ _ _ _ _ _ _ _ _ _ kF kN (allLt_of l1) l2
theorem AllLt.up {d x : Addr} {l : List (Addr × Obj)} (h : AllLt d l) (k : d < x) : ∀ p ∈ l, p.1 < x := fun p hp => Nat.lt_trans (ktn_ltOf h p hp) k
theorem cmap_use {w : World} {v1 v2 : Value} {mean : ExcName → Option Value} {mg mb : Str → Option Value} {A : Around} {env : Env} {outer : List Env} {A₀ : Around} {base h₀ : Heap} {L : Addr} {m : Str → Option Value} {news : List (Addr × Obj)} {s : Shared} {Q E : Value → Shared → Prop}
    (B : Below A₀ base outer h₀) (F : Fr h₀ L s.heap m) (N : News h₀ L s.heap news) (X : Frag.In (Mine.K w.params) h₀) (T : Top hd.view_39 (looseW hd.view_39 [Str.ofString "OTHER_CODES"]) mean mg mb h₀)
    (hh : A.handled = none) (hA : A.frames = some (env :: outer)) (hf : env.frame = some L) (hk : env.scope.kind = .function) (hd : A.depth + 16 < recursionLimit) (hu : A.units + 128 < cLine)
    (ret : ∀ x d g1 g2 u1 u2 n h' tk', Fr h₀ L h' m → News h₀ L h' ((x, instObj 45 d) :: (d, dictOf [⟨g1, .str (Str.ofString "spaces") u1, v1⟩, ⟨g2, .str (Str.ofString "chars") u2, v2⟩] n) :: news) → (∀ p ∈ news, p.1 < d) → (∀ p ∈ news, p.1 < x) → Q (.ref x) { s with heap := h', toks := tk' }) :
    wpAny (model Mine.rw.row.prog w) A (call (.ref 45) [v1, v2]) Q E s := by
  obtain ⟨hdl, dp, fr, gd, un⟩ := A
  simp only at hh hA hd hu
  subst hh hA
  exact cmap_c w v1 v2 mean mg mb dp un gd env outer A₀ base h₀ L m news s Q E X B F N T hf hk hd hu fun x d g1 g2 u1 u2 n h' tk' F' N' l1 l2 => ret x d g1 g2 u1 u2 n h' tk' F' N' (ktn_ltOf l1) (AllLt.up l1 l2)
theorem font_use {w : World} {v1 v2 v3 v4 v5 v6 v7 : Value} {mean : ExcName → Option Value} {mg mb : Str → Option Value} {A : Around} {env : Env} {outer : List Env} {A₀ : Around} {base h₀ : Heap} {L : Addr} {m : Str → Option Value} {news : List (Addr × Obj)} {s : Shared} {Q E : Value → Shared → Prop}
    (B : Below A₀ base outer h₀) (F : Fr h₀ L s.heap m) (N : News h₀ L s.heap news) (X : Frag.In (Mine.K w.params) h₀) (T : Top hd.view_39 (looseW hd.view_39 [Str.ofString "OTHER_CODES"]) mean mg mb h₀)
    (hh : A.handled = none) (hA : A.frames = some (env :: outer)) (hf : env.frame = some L) (hk : env.scope.kind = .function) (hd : A.depth + 16 < recursionLimit) (hu : A.units + 128 < cLine)
    (ret : ∀ x d g1 g2 g3 g4 g5 g6 g7 u1 u2 u3 u4 u5 u6 u7 n h' tk', Fr h₀ L h' m → News h₀ L h' ((x, instObj 161 d) :: (d, dictOf [⟨g1, .str (Str.ofString "names") u1, v1⟩, ⟨g2, .str (Str.ofString "cutting") u2, v2⟩, ⟨g3, .str (Str.ofString "unicode") u3, v3⟩, ⟨g4, .str (Str.ofString "rows") u4, v4⟩, ⟨g5, .str (Str.ofString "default") u5, v5⟩, ⟨g6, .str (Str.ofString "unit") u6, v6⟩, ⟨g7, .str (Str.ofString "standard") u7, v7⟩] n) :: news) → (∀ p ∈ news, p.1 < d) → (∀ p ∈ news, p.1 < x) → Q (.ref x) { s with heap := h', toks := tk' }) :
    wpAny (model Mine.rw.row.prog w) A (call (.ref 161) [v1, v2, v3, v4, v5, v6, v7]) Q E s := by
  obtain ⟨hdl, dp, fr, gd, un⟩ := A
  simp only at hh hA hd hu
  subst hh hA
  exact font_c w v1 v2 v3 v4 v5 v6 v7 mean mg mb dp un gd env outer A₀ base h₀ L m news s Q E X B F N T hf hk hd hu fun x d g1 g2 g3 g4 g5 g6 g7 u1 u2 u3 u4 u5 u6 u7 n h' tk' F' N' l1 l2 => ret x d g1 g2 g3 g4 g5 g6 g7 u1 u2 u3 u4 u5 u6 u7 n h' tk' F' N' (ktn_ltOf l1) (AllLt.up l1 l2)
end Mine
end
section
open PySem PySem.W PyProof.Rows PySem.Spec PyProof.V
namespace Mine
set_option maxRecDepth 100000 in
set_option maxHeartbeats 8000000 in
theorem pair_item {w : World} {A : Around} {env : Env} {E : Value → Shared → Prop} {s : Shared} {h₀ : Heap} {L : Addr} {m : Str → Option Value} {news : List (Addr × Obj)} {a b : String} {k1 k2 : _} {p1 p2 p3 pos : Pos} {cx : _} {rest : List PySem.Expr} {Q : List Value → Shared → Prop}
    (X : Frag.In (Mine.K w.params) h₀) (F : Fr h₀ L s.heap m) (N : News h₀ L s.heap news)
    (h : ∀ T t u n h' tk', Fr h₀ L h' m → News h₀ L h' ((T, tupO [.str (Str.ofString a) t, .str (Str.ofString b) u] n) :: news) → (∀ p ∈ news, p.1 < T) → wpAny (model Mine.rw.row.prog w) A (spliced (backTo pos (starEach rest env))) (fun vs s₂ => Q (.ref T :: vs) s₂) E { s with heap := h', toks := tk' }) :
    wpAny (model Mine.rw.row.prog w) A (spliced (backTo pos (starEach (.Tuple [.Constant (.str (Str.ofString a)) k1 p1, .Constant (.str (Str.ofString b)) k2 p2] cx p3 :: rest) env))) Q E s := by
  revert X N
  w_top off
  k_fill
  intro X N
  refine args_cons ?_
  repeat' (walk_at "one step")
  rename Fr _ _ _ _ => F9
  rename News _ _ _ _ => N9
  exact h _ _ _ _ _ _ F9 N9 (by assumption)
end Mine
end
section
open PySem PySem.W PyProof.Rows PySem.Calls PySem.Spec PyProof.V
namespace Mine
section
variable {prog : Program} {w : World} {A : Around} {E : Value → Shared → Prop} {s : Shared} {env : Env} {h₀ : Heap} {x : Str} {body : List Stmt} {Q : Flow → Shared → Prop}
/-- the end of a turn -/
noncomputable def TurnEnd (h₀ : Heap) (L : Addr) (J : (Str → Option Value) → List (Addr × Obj) → Prop) (I : Addr) (oI : Obj) (s₁ : Shared) (Q : Flow → Shared → Prop) (f : Flow) (s₂ : Shared) : Prop :=
  match f with
  | .ret v => Q (.ret v) s₂
  | .brk => Q .next s₂
  | _ => ∃ h' tk m' news', s₂ = { s₁ with heap := h', toks := tk } ∧ Fr h₀ L h' m' ∧ News h₀ L h' ((I, oI) :: news') ∧ (∀ p ∈ news', p.1 ≠ I) ∧ J m' news'
theorem TurnEnd.intro {h₀ h' : Heap} {L I : Addr} {oI : Obj} {J : (Str → Option Value) → List (Addr × Obj) → Prop} {s₁ : Shared} {Q : Flow → Shared → Prop} {tk : Nat} {m' : Str → Option Value} {all : List (Addr × Obj)} (F : Fr h₀ L h' m') (N : News h₀ L h' all) (news' : List (Addr × Obj))
    (sub : ∀ p ∈ (I, oI) :: news', p ∈ all) (off : ∀ p ∈ news', p.1 ≠ I) (j : J m' news') : TurnEnd h₀ L J I oI s₁ Q .next { s₁ with heap := h', toks := tk } :=
  ⟨h', tk, m', news', rfl, F, fun p hp => N p (sub p hp), off, j⟩
/-- a loop whose ledger keeps what is walked over -/
theorem gen_loop {I : Addr} {fp : List Addr} {n : Nat} {P : Nat → Value → Prop} {St : Nat → Heap → Prop} {m₀ : Str → Option Value} {news : List (Addr × Obj)} (J : Nat → (Str → Option Value) → List (Addr × Obj) → Prop) (kp : List (Addr × Obj)) (PI : Obj → Prop)
    (W : Walks prog w A I fp [I] n P St) (hLf : env.locals ∉ fp) (hI₀ : h₀.get? I = none) (hnw : ∀ p ∈ news, p.1 ≠ I) (hIf : I ∈ fp) (hIo : ∀ i h, St i h → ∃ o, h.get? I = some o ∧ PI o) (hfp : ∀ b ∈ fp, b ≠ I → ∃ q ∈ kp, q.1 = b) (hkp : ∀ i m nw, J i m nw → ∀ q ∈ kp, q ∈ nw)
    (hst : St 0 s.heap) (F : Fr h₀ env.locals s.heap m₀) (N : News h₀ env.locals s.heap news) (hj : J 0 m₀ news)
    (turn : ∀ i v m₁ nw h tk oI, i < n → PI oI → P i v → J i m₁ nw → (∀ p ∈ nw, p.1 ≠ I) → Fr h₀ env.locals h (fun y => if y = x then some v else m₁ y) → News h₀ env.locals h ((I, oI) :: nw) →
      wpAny (model prog w) A (execs body env) (TurnEnd h₀ env.locals (J (i + 1)) I oI { s with heap := h, toks := tk } Q) E { s with heap := h, toks := tk })
    (done : ∀ m₁ nw h tk, J n m₁ nw → Fr h₀ env.locals h m₁ → News h₀ env.locals h nw → Q .next { s with heap := h, toks := tk }) :
    LoopAtV prog w A h₀ env x body Q E (.ref I) s := by
  refine ⟨I, fp, [I], n, P, St, m₀, news, J, rfl, W, hLf, ?_, ?_, hst, F, N, hj, ?_, ?_⟩
  · intro b hb; rw [List.mem_singleton.mp hb]; exact hI₀
  · intro p hp hq; exact hnw p hp (List.mem_singleton.mp hq)
  · rintro i v m₁ nw s₁ own ⟨hh', tk', rfl⟩ hin hP hJ hoff hown hat hall hst1 F₁ N₁
    obtain ⟨oI, hoI, hPI⟩ := hIo _ _ hst1
    have hIown : (I, oI) ∈ own := hall I hIf hI₀ oI hoI
    have hoff' : ∀ p ∈ nw, p.1 ≠ I := fun p hp e => hoff p hp (List.mem_singleton.mpr e)
    refine wpAny_mono (turn i v m₁ nw hh' tk' oI hin hPI hP hJ hoff' F₁ (fun p hp => N₁ p ?_)) (fun f s₂ p => ?_) fun _ _ e => e
    · rcases List.mem_cons.mp hp with rfl | hp
      · exact List.mem_append_left _ hIown
      · exact List.mem_append_right _ hp
    · have fin : (∃ h' tk m' news', s₂ = { ({ s with heap := hh', toks := tk' } : Shared) with heap := h', toks := tk } ∧ Fr h₀ env.locals h' m' ∧ News h₀ env.locals h' ((I, oI) :: news') ∧ (∀ p ∈ news', p.1 ≠ I) ∧ J (i + 1) m' news') → LoopStepU h₀ env.locals [I] own (J (i + 1)) { s with heap := hh', toks := tk' } .next s₂ := by
        rintro ⟨h', tk, m', nx, e, F', N', hn, hm⟩
        refine ⟨rfl, h', tk, m', nx, e, F', fun p hp => ?_, fun p hp hq => hn p hp (List.mem_singleton.mp hq), hm⟩
        rcases List.mem_append.mp hp with hp | hp
        · by_cases hpI : p.1 = I
          · have h1 := hat p hp
            rw [hpI, hoI] at h1
            have h2 : p = (I, oI) := Prod.ext hpI (Option.some.inj h1).symm
            rw [h2]
            exact N' _ (.head _)
          · obtain ⟨q, hq, hqe⟩ := hfp _ (hown p hp) hpI
            have h1 := hat p hp
            have h2 := (N₁ q (List.mem_append_right _ (hkp _ _ _ hJ q hq))).1
            rw [hqe] at h2
            have h3 : p = q := Prod.ext hqe.symm (by
              have h4 : some p.2 = some q.2 := h1.symm.trans h2
              exact Option.some.inj h4)
            rw [h3]
            exact N' _ (.tail _ (hkp _ _ _ hm q hq))
        · exact N' p (.tail _ hp)
      cases f with
      | ret v => exact .ret p
      | brk => exact .brk p
      | next => exact .next (fin p)
      | cont => exact .cont (fin p)
  · rintro h' tk m' news' F' N' _ hJ
    exact done m' news' h' tk hJ F' N'
/-- over a list of the ledger -/
theorem list_loop {l : Addr} {vs : List Value} {nl : Nat} {m₀ : Str → Option Value} {news : List (Addr × Obj)} (J : Nat → (Str → Option Value) → List (Addr × Obj) → Prop)
    (hh : A.handled = none) (F : Fr h₀ env.locals s.heap m₀) (N : News h₀ env.locals s.heap news) (hl : (l, W.listOf vs.toArray nl) ∈ news) (hkp : ∀ i m nw, J i m nw → (l, W.listOf vs.toArray nl) ∈ nw) (hj : J 0 m₀ news)
    (turn : ∀ i v m₁ nw h tk I oI, vs[i]? = some v → J i m₁ nw → (∀ p ∈ nw, p.1 ≠ I) → Fr h₀ env.locals h (fun y => if y = x then some v else m₁ y) → News h₀ env.locals h ((I, oI) :: nw) →
      wpAny (model prog w) A (execs body env) (TurnEnd h₀ env.locals (J (i + 1)) I oI { s with heap := h, toks := tk } Q) E { s with heap := h, toks := tk })
    (done : ∀ m₁ nw h tk, J vs.length m₁ nw → Fr h₀ env.locals h m₁ → News h₀ env.locals h nw → Q .next { s with heap := h, toks := tk }) :
    wpAny (model prog w) A (pyIter (.ref l)) (fun it s₂ => LoopAtV prog w A h₀ env x body Q E it s₂) E s := by
  have hls : s.heap.IsList l vs.toArray := News.isList N hl
  have hlt : l < s.heap.objs.size := Heap.lt_size (N _ hl).1
  have hL : l ≠ env.locals := fun e => (N _ hl).2.1 e
  refine wpAny_pyIter_list hls ?_
  refine gen_loop J [(l, W.listOf vs.toArray nl)] (fun _ => True) (Walks.list hh s.heap.objs.size l (Nat.ne_of_lt hlt) vs.toArray) ?_ (next_is_new F) (fun p hp => Nat.ne_of_lt (Heap.lt_size (N p hp).1)) (.head _) (fun i h st => by obtain ⟨o, e, _⟩ := st.1; exact ⟨o, e, trivial⟩) ?_ ?_
    ⟨⟨_, Heap.get?_push_size _ rfl, rfl, rfl⟩, hls.at fun o e => Heap.get?_push_of_some _ e⟩ (F.push _) (fun p hp => ⟨Heap.get?_push_of_some _ (N p hp).1, (N p hp).2⟩) hj ?_ ?_
  · intro hm
    rcases List.mem_cons.mp hm with e | hm
    · exact absurd F.ns.lt (e ▸ Nat.lt_irrefl _)
    · exact hL (List.mem_singleton.mp hm).symm
  · intro b hb hbI
    rcases List.mem_cons.mp hb with e | hb
    · exact absurd e hbI
    · exact ⟨_, .head _, (List.mem_singleton.mp hb).symm⟩
  · intro i m nw hJ q hq
    rw [List.mem_singleton.mp hq]
    exact hkp i m nw hJ
  · intro i v m₁ nw h tk oI hi _ hP hJ hoff F₁ N₁
    exact turn i v m₁ nw h tk _ oI (by simpa using hP) hJ hoff F₁ N₁
  · intro m₁ nw h tk hJ F₁ N₁
    exact done m₁ nw h tk (by simpa using hJ) F₁ N₁
theorem bytes_loop {b : Array UInt8} {t : Tok} {m₀ : Str → Option Value} {news : List (Addr × Obj)} (J : Nat → (Str → Option Value) → List (Addr × Obj) → Prop)
    (hh : A.handled = none) (F : Fr h₀ env.locals s.heap m₀) (N : News h₀ env.locals s.heap news) (hj : J 0 m₀ news)
    (turn : ∀ i (n : UInt8) u m₁ nw h tk I oI, b[i]? = some n → J i m₁ nw → (∀ p ∈ nw, p.1 ≠ I) → Fr h₀ env.locals h (fun y => if y = x then some (.int (n.toNat : Int) u) else m₁ y) → News h₀ env.locals h ((I, oI) :: nw) →
      wpAny (model prog w) A (execs body env) (TurnEnd h₀ env.locals (J (i + 1)) I oI { s with heap := h, toks := tk } Q) E { s with heap := h, toks := tk })
    (done : ∀ m₁ nw h tk, J b.size m₁ nw → Fr h₀ env.locals h m₁ → News h₀ env.locals h nw → Q .next { s with heap := h, toks := tk }) :
    wpAny (model prog w) A (pyIter (.bytes b t)) (fun it s₂ => LoopAtV prog w A h₀ env x body Q E it s₂) E s := by
  refine KBw.pyIter_bytes ?_
  refine gen_loop J [] (fun _ => True) (KBw.walks hh s.heap.objs.size b t) ?_ (next_is_new F) (fun p hp => Nat.ne_of_lt (Heap.lt_size (N p hp).1)) (.head _) (fun i h st => by obtain ⟨o, e, _⟩ := st; exact ⟨o, e, trivial⟩) ?_ (fun _ _ _ _ _ h => nomatch h)
    ⟨_, Heap.get?_push_size _ rfl, rfl, rfl⟩ (F.push _) (fun p hp => ⟨Heap.get?_push_of_some _ (N p hp).1, (N p hp).2⟩) hj ?_ ?_
  · intro hm
    exact absurd F.ns.lt ((List.mem_singleton.mp hm) ▸ Nat.lt_irrefl _)
  · intro b hb hbI
    exact absurd (List.mem_singleton.mp hb) hbI
  · rintro i v m₁ nw h tk oI hi - ⟨n, u, hn, rfl⟩ hJ hoff F₁ N₁
    exact turn i n u m₁ nw h tk _ oI hn hJ hoff F₁ N₁
  · intro m₁ nw h tk hJ F₁ N₁
    exact done m₁ nw h tk hJ F₁ N₁
theorem range_loop {r : Addr} {a b c : Int} {t u v : Tok} {n : Nat} {m₀ : Str → Option Value} {news : List (Addr × Obj)} (J : Nat → (Str → Option Value) → List (Addr × Obj) → Prop)
    (hh : A.handled = none) (F : Fr h₀ env.locals s.heap m₀) (N : News h₀ env.locals s.heap news) (hr : IsRange s.heap r a b c t u v) (hsm : Builtin.Range.small a b c = true) (hn : Builtin.Range.rangeSize a b c = ((n : Nat) : Int)) (hj : J 0 m₀ news)
    (turn : ∀ i u m₁ nw h tk I oI, i < n → oI.cls = .type "range_iterator" → J i m₁ nw → (∀ p ∈ nw, p.1 ≠ I) → Fr h₀ env.locals h (fun y => if y = x then some (.int (a + (i : Int) * c) u) else m₁ y) → News h₀ env.locals h ((I, oI) :: nw) →
      wpAny (model prog w) A (execs body env) (TurnEnd h₀ env.locals (J (i + 1)) I oI { s with heap := h, toks := tk } Q) E { s with heap := h, toks := tk })
    (done : ∀ m₁ nw h tk, J n m₁ nw → Fr h₀ env.locals h m₁ → News h₀ env.locals h nw → Q .next { s with heap := h, toks := tk }) :
    wpAny (model prog w) A (pyIter (.ref r)) (fun it s₂ => LoopAtV prog w A h₀ env x body Q E it s₂) E s := by
  refine wpAny_pyIter_range hr hsm ?_
  refine gen_loop J [] (fun o => o.cls = .type "range_iterator") (Walks.range hh s.heap.objs.size a c n) ?_ (next_is_new F) (fun p hp => Nat.ne_of_lt (Heap.lt_size (N p hp).1)) (.head _) (fun i h st => ⟨_, st, rfl⟩) ?_ (fun _ _ _ _ _ h => nomatch h)
    ?_ (F.push _) (fun p hp => ⟨Heap.get?_push_of_some _ (N p hp).1, (N p hp).2⟩) hj ?_ ?_
  · intro hm
    exact absurd F.ns.lt ((List.mem_singleton.mp hm) ▸ Nat.lt_irrefl _)
  · intro b hb hbI
    exact absurd (List.mem_singleton.mp hb) hbI
  · show IsRangeIter _ _ _ _ _
    rw [hn]
    simpa using Heap.get?_push_size _ rfl
  · rintro i v m₁ nw h tk oI hi hc ⟨t, rfl⟩ hJ hoff F₁ N₁
    exact turn i t m₁ nw h tk _ oI hi hc hJ hoff F₁ N₁
  · intro m₁ nw h tk hJ F₁ N₁
    exact done m₁ nw h tk hJ F₁ N₁
end
end Mine
end
section
open PySem PySem.W PyProof.Rows PySem.Spec PyProof.V
namespace Mine
/-- the pot's two objects -/
noncomputable abbrev potL (P C : Addr) (st pl : Int) (ts tp : Tok) (cv : List Value) (n nC : Nat) (own : List (Addr × Obj)) : List (Addr × Obj) :=
  (P, W.listOf #[.ref C, .int st ts, .int pl tp] n) :: (C, W.listOf cv.toArray nC) :: own
noncomputable def Off2 (P C : Addr) (own : List (Addr × Obj)) : Prop := P ≠ C ∧ ∀ p ∈ own, p.1 ≠ P ∧ p.1 ≠ C
section
variable {prog : Program} {w : World} {A : Around} {E : Value → Shared → Prop} {s : Shared} {h₀ : Heap} {L : Addr} {m : Str → Option Value}
theorem set_st {P C : Addr} {st pl st' : Int} {t ts tp ts' : Tok} {cv : List Value} {n nC : Nat} {own : List (Addr × Obj)} {Q : Unit → Shared → Prop} (off : Off2 P C own) (F : Fr h₀ L s.heap m) (N : News h₀ L s.heap (potL P C st pl ts tp cv n nC own))
    (h : ∀ h', Fr h₀ L h' m → News h₀ L h' (potL P C st' pl ts' tp cv n nC own) → Q () { s with heap := h' }) : wpAny (model prog w) A (setItem (.ref P) (.int 1 t) (.int st' ts')) Q E s :=
  set_any (vs := [.ref C, .int st ts, .int pl tp]) F N (.head fun p hp => (List.mem_cons.mp hp).elim (fun e => e ▸ fun e => off.1 e.symm) fun hp => (off.2 p hp).1) (by decide) (by simp) (by decide) fun h' F' N' => h h' F' N'
theorem set_pl {P C : Addr} {st pl pl' : Int} {t ts tp tp' : Tok} {cv : List Value} {n nC : Nat} {own : List (Addr × Obj)} {Q : Unit → Shared → Prop} (off : Off2 P C own) (F : Fr h₀ L s.heap m) (N : News h₀ L s.heap (potL P C st pl ts tp cv n nC own))
    (h : ∀ h', Fr h₀ L h' m → News h₀ L h' (potL P C st pl' ts tp' cv n nC own) → Q () { s with heap := h' }) : wpAny (model prog w) A (setItem (.ref P) (.int 2 t) (.int pl' tp')) Q E s :=
  set_any (vs := [.ref C, .int st ts, .int pl tp]) F N (.head fun p hp => (List.mem_cons.mp hp).elim (fun e => e ▸ fun e => off.1 e.symm) fun hp => (off.2 p hp).1) (by decide) (by simp) (by decide) fun h' F' N' => h h' F' N'
theorem set_cell {P C : Addr} {st pl k x : Int} {t ts tp u : Tok} {cv : List Value} {n nC : Nat} {own : List (Addr × Obj)} {Q : Unit → Shared → Prop} (off : Off2 P C own) (F : Fr h₀ L s.heap m) (N : News h₀ L s.heap (potL P C st pl ts tp cv n nC own))
    (k0 : 0 ≤ k) (k1 : k < cv.length) (k2 : k < 2 ^ 63) (h : ∀ h', Fr h₀ L h' m → News h₀ L h' (potL P C st pl ts tp (cv.set k.toNat (.int x u)) n nC own) → Q () { s with heap := h' }) : wpAny (model prog w) A (setItem (.ref C) (.int k t) (.int x u)) Q E s :=
  set_any (vs := cv) F N (.tail (fun e => off.1 e) (.head fun p hp => (off.2 p hp).2)) k0 k1 k2 fun h' F' N' => h h' F' N'
end
set_option maxRecDepth 100000 in
set_option maxHeartbeats 8000000 in
theorem draw_c (w : World) (P C : Addr) (lim : Int) (tl : Tok) (h0 : 0 < lim) (h1 : lim ≤ 1000) (mean : ExcName → Option Value) (mg mb : Str → Option Value) (dp un : Nat) (gd : Option (List Code)) (env : Env) (outer : List Env) (A₀ : Around) (base h₀ : Heap) (L : Addr) (m : Str → Option Value)
    (st pl : Int) (ts tp : Tok) (cv : List Value) (ns : List Int) (n nC : Nat) (own : List (Addr × Obj)) (s : Shared) (Q E : Value → Shared → Prop)
    (X : Frag.In (Mine.K w.params) h₀) (B : Below A₀ base outer h₀) (F : Fr h₀ L s.heap m) (N : News h₀ L s.heap (potL P C st pl ts tp cv n nC own)) (hi : IntsAre cv ns) (hl : ns.length ≤ 100) (hp0 : 0 ≤ pl) (hp1 : pl ≤ 1000000) (off : Off2 P C own)
    (T : Top hd.view_39 (looseW hd.view_39 [Str.ofString "OTHER_CODES"]) mean mg mb h₀) (hf : env.frame = some L) (hk : env.scope.kind = .function) (hd : dp + 16 < recursionLimit) (hu : un + 128 < cLine)
    (ret : ∀ r tr st' pl' ts' tp' cv' ns' n' nC' h' tk', 0 ≤ r → r < lim → pl' = pl + 1 → IntsAre cv' ns' → ns'.length = ns.length → Fr h₀ L h' m → News h₀ L h' (potL P C st' pl' ts' tp' cv' n' nC' own) → Q (.int r tr) { s with heap := h', toks := tk' }) :
    wpAny (model Mine.rw.row.prog w) (AR dp un gd env outer) (call (.ref 182) [.ref P, .int lim tl]) Q E s := by
  revert X N
  w_top off
  k_fill
  intro X N
  refine wpAny_call ?_
  k_dflt (refine' code_defG (news := potL P C st pl ts tp cv n nC own) (binds := [(Str.ofString "pot", .ref P), (Str.ofString "limit", .int lim tl)]) B F X N T rfl hf hk ?k6 ?k7 ?k8 ?k9 ?kB ?_ ?c2 ?c3 ?c4 ?c5; (case k6 => k_is); (case k7 => k_is); (case k8 => (dsimp only [AR]; omega)); (case k9 => exact BindsTo.of_eq rfl); (case c5 => decide); (case kB => exact locs rfl); (case c2 => exact rfl); (case c3 => exact rfl); (case c4 => exact rfl); k_whole; intro g' L' h' FG' F' N' B' X' T' kG'; (try dsimp only); (try k_lift B'); (try k_fold))
  have hmul : IntMulOk pl pl := IntMulOk.of_left (intBits_le_64 (by omega) (by omega))
  repeat' ((fail_if_success (with_reducible show LeaveK ..)); (fail_if_success (with_reducible show wpAny _ _ (setItem _ _ _) _ _ _)); walk_at "one step")
  rename Fr _ _ _ _ => F1
  rename News _ _ _ _ => N1
  refine set_pl off F1 N1 ?_
  intro h2 F2 N2
  clear F1 N1
  (try dsimp only)
  repeat' ((fail_if_success (with_reducible show LeaveK ..)); (fail_if_success (with_reducible show wpAny _ _ (setItem _ _ _) _ _ _)); walk_at "one step")
  · rename Fr _ _ _ _ => F4
    rename News _ _ _ _ => N4
    rename 0 < ns.length => hlen
    have hnn : (0 : Int) < (ns.length : Int) := by omega
    have hcl : cv.length = ns.length := hi.length
    refine set_cell off F4 N4 (Int.fmod_nonneg_of_pos _ hnn) (by rw [hcl]; exact Int.fmod_lt_of_pos _ hnn) ?_ ?_
    · have := Int.fmod_lt_of_pos pl hnn
      omega
    intro h5 F5 N5
    clear F4 N4
    (try dsimp only)
    repeat' ((fail_if_success (with_reducible show LeaveK ..)); (fail_if_success (with_reducible show wpAny _ _ (setItem _ _ _) _ _ _)); walk_at "one step")
    rename Fr _ _ _ _ => F9
    rename News _ _ _ _ => N9
    refine leaveK_ F9 N9 (fun kF kN => ?_)
    show Q _ _
    exact ret _ _ _ _ _ _ _ _ _ _ _ _ (Int.fmod_nonneg_of_pos _ h0) (Int.fmod_lt_of_pos _ h0) rfl (ints_set hi _) (by simp) kF kN
  all_goals
    rename Fr _ _ _ _ => F4
    rename News _ _ _ _ => N4
    refine set_st off F4 N4 ?_
    intro h5 F5 N5
    clear F4 N4
    (try dsimp only)
    repeat' ((fail_if_success (with_reducible show LeaveK ..)); (fail_if_success (with_reducible show wpAny _ _ (setItem _ _ _) _ _ _)); walk_at "one step")
    rename Fr _ _ _ _ => F9
    rename News _ _ _ _ => N9
    refine leaveK_ F9 N9 (fun kF kN => ?_)
    show Q _ _
    exact ret _ _ _ _ _ _ _ _ _ _ _ _ (Int.fmod_nonneg_of_pos _ h0) (Int.fmod_lt_of_pos _ h0) rfl hi rfl kF kN
end Mine
end
section
open PySem PySem.W PyProof.Rows PySem.Spec PyProof.V
namespace Mine
theorem ints_snoc1 {y : Int} {t : Tok} : ∀ {vs : List Value} {ys : List Int}, IntsAre vs ys → IntsAre (vs ++ [.int y t]) (ys ++ [y])
  | _, _, .nil => .cons y t .nil
  | _, _, .cons z u r => .cons z u (ints_snoc1 r)
theorem ints_get : ∀ {vs : List Value} {ns : List Int}, IntsAre vs ns → ∀ {i : Nat} {v : Value}, vs[i]? = some v → ∃ k t, v = .int k t ∧ ns[i]? = some k
  | _, _, .nil, _, _, h => by cases h
  | _, _, .cons y t _, 0, _, h => by cases h; exact ⟨y, t, rfl, rfl⟩
  | _, _, .cons _ _ r, i + 1, _, h => ints_get r (by simpa using h)
noncomputable def NewPot (h0 : Heap) (r : Value) (h' : Heap) : Prop :=
  ∃ (P C : Addr) (st : Int) (t1 t2 : Tok) (cv : List Value) (ns : List Int) (n nC : Nat), r = .ref P ∧ h0.get? P = none ∧ h0.get? C = none ∧ P ≠ C ∧ h'.get? P = some (W.listOf #[.ref C, .int st t1, .int 0 t2] n) ∧ h'.get? C = some (W.listOf cv.toArray nC) ∧ IntsAre cv ns ∧ ns.length ≤ 100
set_option maxRecDepth 100000 in
set_option maxHeartbeats 8000000 in
theorem pot_c (w : World) (S : Addr) (vs : List Value) (ns : List Int) (hi : IntsAre vs ns) (hl : ns.length ≤ 63) (mean : ExcName → Option Value) (mg mb : Str → Option Value) (dp un : Nat) (gd : Option (List Code)) (env : Env) (outer : List Env) (A₀ : Around) (base h₀ : Heap) (L : Addr) (m : Str → Option Value)
    (news : List (Addr × Obj)) (s : Shared) (Q E : Value → Shared → Prop) (hS : h₀.IsList S vs.toArray)
    (X : Frag.In (Mine.K w.params) h₀) (B : Below A₀ base outer h₀) (F : Fr h₀ L s.heap m) (N : News h₀ L s.heap news)
    (T : Top hd.view_39 (looseW hd.view_39 [Str.ofString "OTHER_CODES"]) mean mg mb h₀) (hf : env.frame = some L) (hk : env.scope.kind = .function) (hd : dp + 16 < recursionLimit) (hu : un + 128 < cLine)
    (ret : ∀ r h' tk', (∀ b o, s.heap.get? b = some o → h'.get? b = some o) → NewPot s.heap r h' → Q r { s with heap := h', toks := tk' }) :
    wpAny (model Mine.rw.row.prog w) (AR dp un gd env outer) (call (.ref 175) [.ref S]) Q E s := by
  revert X N
  w_top off
  k_fill
  intro X N
  refine wpAny_call ?_
  k_dflt (refine' code_defG (news := []) (binds := [(Str.ofString "script", .ref S)]) B F X News.nil T rfl hf hk ?k6 ?k7 ?k8 ?k9 ?kB ?_ ?c2 ?c3 ?c4 ?c5; (case k6 => k_is); (case k7 => k_is); (case k8 => (dsimp only [AR]; omega)); (case k9 => exact BindsTo.of_eq rfl); (case c5 => decide); (case kB => exact locs rfl); (case c2 => exact rfl); (case c3 => exact rfl); (case c4 => exact rfl); k_whole; intro g' L' h' FG' F' N' B' X' T' kG'; (try dsimp only); (try k_lift B'); (try k_fold))
  have hS2 : g'.IsList S vs.toArray := by
    obtain ⟨o, ho, hr⟩ := hS
    exact ⟨o, kG' S o (F.keep _ _ ho) List.not_mem_nil, hr⟩
  repeat' ((fail_if_success (with_reducible show LeaveK ..)); (fail_if_success (with_reducible show wpAny _ _ (call (Value.ref _) _) _ _ _)); (fail_if_success (with_reducible show wpAny _ _ (exec (PySem.Stmt.Assign (_ :: _) (PySem.Expr.ListComp ..) ..) _) _ _ _)); (fail_if_success (with_reducible show wpAny _ _ (exec (PySem.Stmt.For ..) _) _ _ _)); (fail_if_success (with_reducible show wpAny _ _ (eval (PySem.Expr.ListComp ..) _) _ _ _)); walk_at "one step")
  k_dflt (refine LCg.Assign_ListComp_U (F₀ := by k_asm) (by rfl) (by with_unfolding_all rfl) (by with_unfolding_all rfl) (by decide) (by rfl) (by decide) (by rfl) (by rfl) (by rfl) ?_)
  repeat' ((fail_if_success (with_reducible show LCg.CompSrc ..)); walk_at "one step")
  rename Fr _ _ _ _ => F1
  rename News _ _ _ _ => N1
  rename IntsAre _ (List.take 40 ns) => hI1
  have hlen1 : (List.take 40 ns).length ≤ 40 := by simp; omega
  generalize List.take 40 ns = kk at hI1 hlen1
  refine LCg.CompSrc.ledger (k := 0) rfl F1 N1 (.head _) (by rw [List.size_toArray, hI1.length]; exact Nat.le_trans hlen1 (by decide)) ?_
  intro g1
  refine rest_same (fun i ys => IntsAre ys (kk.take i)) ?_ .nil ?_
  · intro i v ys I oI C oC D m₂ h tk E' hi hv hy hC hx F2 N2 off2 ne2
    obtain ⟨k, tk2, rfl, hkk⟩ := ints_get hI1 (by simpa using hv)
    simp only [LCg.Off3, and_true] at off2
    (try k_unfold)
    (try dsimp only)
    repeat' ((fail_if_success (with_reducible show LeaveK ..)); (fail_if_success (with_reducible show wpAny _ _ (call (Value.ref _) _) _ _ _)); (fail_if_success (with_reducible show _ ∧ _)); walk_at "one step")
    refine ⟨rfl, ?_⟩
    have e2 : kk.take (i + 1) = kk.take i ++ [k] := by rw [List.take_add_one, hkk]; rfl
    rw [e2]
    exact ints_snoc1 hy
  · intro ys hys
    have hys2 : IntsAre ys kk := by
      rw [List.size_toArray, hI1.length, List.take_length] at hys
      exact hys
    clear hys hI1 F1 N1
    intro D7 h7 tk7 F7 N7 o7
    simp only [LCg.Off1, and_true] at o7
    (try k_unfold)
    (try dsimp only)
    repeat' ((fail_if_success (with_reducible show LeaveK ..)); (fail_if_success (with_reducible show wpAny _ _ (call (Value.ref _) _) _ _ _)); (fail_if_success (with_reducible show wpAny _ _ (exec (PySem.Stmt.For ..) _) _ _ _)); walk_at "one step")
    (rename Fr _ _ _ _ => lF')
    (with_unfolding_all refine' For_invVF lF' ?k1 ?k2 ?_; (case k1 => exact rfl); (case k2 => exact rfl); k_whole)
    repeat' ((fail_if_success (with_reducible show wpAny _ _ (pyIter _) _ _ _)); walk_at "one step")
    rename News _ _ _ _ => N8
    refine list_loop (l := D7) (vs := ys) (nl := ys.length) (fun i m nw => (∃ D o, nw = [(D7, LCg.lst ys), (D, o)]) ∧ ∃ z t, 0 ≤ z ∧ z < 2147483647 ∧ m (Str.ofString "state") = some (.int z t) ∧ m (Str.ofString "cells") = some (.ref D7)) rfl lF' N8 (.head _) ?_ ?_ ?_ ?_
    · rintro i m nw ⟨⟨D, o, rfl⟩, _⟩
      exact .head _
    · exact ⟨⟨_, _, rfl⟩, 1, _, by decide, by decide, by k_dflt exact rfl, by k_dflt exact rfl⟩
    · rintro i v m₁ nw h tk I oI hv ⟨⟨D, o, rfl⟩, z, tz, hz0, hz1, hz, hcl⟩ hoff F₁ N₁
      obtain ⟨k, tk2, rfl, hkk⟩ := ints_get hys2 hv
      rw [map_has hz, map_has hcl] at F₁
      (try k_fold)
      repeat' ((fail_if_success (with_reducible show Mine.TurnEnd ..)); walk_at "one step")
      rename Fr _ _ _ _ => F9
      rename News _ _ _ _ => N9
      refine TurnEnd.intro F9 N9 _ (fun _ h => h) hoff ⟨⟨_, _, rfl⟩, ?_⟩
      refine ⟨(z * 48271 + k.fmod 2147483647 + 12345).fmod 2147483647, ?tt, Int.fmod_nonneg_of_pos _ (show (0 : Int) < 2147483647 by decide), Int.fmod_lt_of_pos _ (show (0 : Int) < 2147483647 by decide), ?e1, ?e2⟩
      case e1 => k_dflt exact rfl
      case e2 => k_dflt exact rfl
    · rintro m₁ nw h tk ⟨⟨D, o, rfl⟩, z, tz, hz0, hz1, hz, hcl⟩ F₁ N₁
      rw [map_has hz, map_has hcl] at F₁
      (try dsimp only)
      repeat' ((fail_if_success (with_reducible show LeaveK ..)); (fail_if_success (with_reducible show wpAny _ _ (eval (PySem.Expr.ListComp ..) _) _ _ _)); walk_at "one step")
      k_dflt (refine LCg.ListComp_U (F₀ := by k_asm) (by with_unfolding_all rfl) (by decide) (by rfl) (by decide) (by rfl) ?_)
      repeat' ((fail_if_success (with_reducible show LCg.CompSrc ..)); (fail_if_success (with_reducible show wpAny _ _ (call (Value.ref _) _) _ _ _)); walk_at "one step")
      rename Fr _ _ _ _ => F2
      rename News _ _ _ _ => N2
      refine LCg.CompSrc.ledger (its := ys.toArray) (k := ys.length) rfl F2 N2 (.head _) (by rw [List.size_toArray, hys2.length]; exact Nat.le_trans hlen1 (by decide)) ?_
      intro g3
      refine rest_same (fun i vs => ∃ ks, ks.length = i ∧ IntsAre vs ks) ?_ ⟨[], rfl, .nil⟩ ?_
      · rintro i v vs I oI C oC Dd m₂ h5 tk5 E' hi hv ⟨ks, hkl, hks⟩ hC hx F5 N5 off5 ne5
        obtain ⟨k, tk2, rfl, hkk⟩ := ints_get hys2 (by simpa using hv)
        simp only [LCg.Off3, and_true] at off5
        (try k_unfold)
        (try dsimp only)
        repeat' ((fail_if_success (with_reducible show LeaveK ..)); (fail_if_success (with_reducible show wpAny _ _ (call (Value.ref _) _) _ _ _)); (fail_if_success (with_reducible show _ ∧ _)); walk_at "one step")
        refine ⟨rfl, _, ?_, ints_snoc1 hks⟩
        rw [List.length_append, hkl]; rfl
      · rintro vs2 ⟨ks, hkl, hks⟩
        rw [List.size_toArray] at hkl
        have hkl2 : ks.length ≤ 100 := by rw [hkl, hys2.length]; omega
        intro C9 h9 tk9 F9 N9 o9
        simp only [LCg.Off1, and_true] at o9
        (try k_unfold)
        (try dsimp only)
        repeat' ((fail_if_success (with_reducible show LeaveK ..)); (fail_if_success (with_reducible show wpAny _ _ (call (Value.ref _) _) _ _ _)); walk_at "one step")
        rename Fr _ _ _ _ => F10
        rename News _ _ _ _ => N10
        rename GSub _ _ _ => kG
        rename _ ∧ _ => l10
        refine leaveK_ F10 N10 (fun kF kN => ?_)
        show Q _ _
        exact ret _ _ _ (fun b o e => F10.keep b o (kG b o e List.not_mem_nil)) ⟨_, C9, _, _, _, _, ks, _, _, rfl, fresh_in kG List.not_mem_nil N10 (.head _), fresh_in kG List.not_mem_nil N10 (.tail _ (.head _)), (Nat.ne_of_gt l10.1), (N10 _ (.head _)).1, (N10 _ (.tail _ (.head _))).1, hks, hkl2⟩
end Mine
end
section
open PySem PySem.W PyProof.Rows PySem.Spec PyProof.V
namespace Mine
section
variable {M : Model} {A : Around} {E : Value → Shared → Prop} {s : Shared} {env : Env}
theorem execs_mid2 {a b : Stmt} {rest : List Stmt} {Q : Flow → Shared → Prop} (Mid : Shared → Prop)
    (h1 : wpAny M A (exec a env) (fun f s' => match f with | .next => wpAny M A (exec b env) (fun f s' => match f with | .next => Mid s' | f => Q f s') E s' | f => Q f s') E s)
    (h2 : ∀ s', Mid s' → wpAny M A (execs rest env) Q E s') : wpAny M A (execs (a :: b :: rest) env) Q E s :=
  execs_mid (fun s' => wpAny M A (exec b env) (fun f s' => match f with | .next => Mid s' | f => Q f s') E s') h1 fun _ h => execs_mid Mid h h2
end
theorem draw_use {w : World} {P C : Addr} {lim : Int} {tl : Tok} {mean : ExcName → Option Value} {mg mb : Str → Option Value} {A : Around} {env : Env} {outer : List Env} {A₀ : Around} {base h₀ : Heap} {L : Addr} {m : Str → Option Value}
    {st pl : Int} {ts tp : Tok} {cv : List Value} {ns : List Int} {n nC : Nat} {own : List (Addr × Obj)} {s : Shared} {Q E : Value → Shared → Prop}
    (B : Below A₀ base outer h₀) (F : Fr h₀ L s.heap m) (N : News h₀ L s.heap (potL P C st pl ts tp cv n nC own)) (X : Frag.In (Mine.K w.params) h₀)
    (T : Top hd.view_39 (looseW hd.view_39 [Str.ofString "OTHER_CODES"]) mean mg mb h₀) (hi : IntsAre cv ns) (hl : ns.length ≤ 100) (hp0 : 0 ≤ pl) (hp1 : pl ≤ 1000000) (off : Off2 P C own) (h0 : 0 < lim) (h1 : lim ≤ 1000)
    (hh : A.handled = none) (hA : A.frames = some (env :: outer)) (hf : env.frame = some L) (hk : env.scope.kind = .function) (hd : A.depth + 16 < recursionLimit) (hu : A.units + 128 < cLine)
    (ret : ∀ r tr st' pl' ts' tp' cv' ns' n' nC' h' tk', 0 ≤ r → r < lim → pl' = pl + 1 → IntsAre cv' ns' → ns'.length = ns.length → Fr h₀ L h' m → News h₀ L h' (potL P C st' pl' ts' tp' cv' n' nC' own) → Q (.int r tr) { s with heap := h', toks := tk' }) :
    wpAny (model Mine.rw.row.prog w) A (call (.ref 182) [.ref P, .int lim tl]) Q E s := by
  obtain ⟨hdl, dp, fr, gd, un⟩ := A
  simp only at hh hA hd hu
  subst hh hA
  exact draw_c w P C lim tl h0 h1 mean mg mb dp un gd env outer A₀ base h₀ L m st pl ts tp cv ns n nC own s Q E X B F N hi hl hp0 hp1 off T hf hk hd hu ret
theorem pot_use {w : World} {S : Addr} {vs : List Value} {ns : List Int} {mean : ExcName → Option Value} {mg mb : Str → Option Value} {A : Around} {env : Env} {outer : List Env} {A₀ : Around} {base h₀ : Heap} {L : Addr} {m : Str → Option Value}
    {news : List (Addr × Obj)} {s : Shared} {Q E : Value → Shared → Prop} (B : Below A₀ base outer h₀) (F : Fr h₀ L s.heap m) (N : News h₀ L s.heap news) (X : Frag.In (Mine.K w.params) h₀)
    (T : Top hd.view_39 (looseW hd.view_39 [Str.ofString "OTHER_CODES"]) mean mg mb h₀) (hS : h₀.IsList S vs.toArray) (hi : IntsAre vs ns) (hl : ns.length ≤ 63)
    (hh : A.handled = none) (hA : A.frames = some (env :: outer)) (hf : env.frame = some L) (hk : env.scope.kind = .function) (hd : A.depth + 16 < recursionLimit) (hu : A.units + 128 < cLine)
    (ret : ∀ P C st t1 t2 cv ns' n nC h' tk', Fr h₀ L h' m → News h₀ L h' (potL P C st 0 t1 t2 cv n nC news) → s.heap.get? P = none → s.heap.get? C = none → P ≠ C → IntsAre cv ns' → ns'.length ≤ 100 → Q (.ref P) { s with heap := h', toks := tk' }) :
    wpAny (model Mine.rw.row.prog w) A (call (.ref 175) [.ref S]) Q E s := by
  obtain ⟨hdl, dp, fr, gd, un⟩ := A
  simp only at hh hA hd hu
  subst hh hA
  refine pot_c w S vs ns hi hl mean mg mb dp un gd env outer A₀ base h₀ L m news s Q E hS X B F N T hf hk hd hu fun r h' tk' k x => ?_
  obtain ⟨P, C, st, t1, t2, cv, ns', n, nC, e, hP, hC, hne, h1, h2, h3, h4⟩ := x
  subst e
  exact ret P C st t1 t2 cv ns' n nC h' tk' (F.keeps k) (news_fresh F hP h1 (news_fresh F hC h2 (N.grown k))) hP hC hne h3 h4
theorem off_fresh {h₀ h : Heap} {L P C : Addr} {news : List (Addr × Obj)} (N : News h₀ L h news) (hP : h.get? P = none) (hC : h.get? C = none) (hne : P ≠ C) : Off2 P C news :=
  by
  refine ⟨hne, fun p hp => ⟨fun e => ?_, fun e => ?_⟩⟩
  · have h1 := (N p hp).1
    rw [e, hP] at h1; cases h1
  · have h1 := (N p hp).1
    rw [e, hC] at h1; cases h1
theorem off_N {P C : Addr} {news : List (Addr × Obj)} (h : Off2 P C news) : (@Ne Nat P C) ∧ ∀ p ∈ news, (@Ne Nat p.1 P) ∧ (@Ne Nat p.1 C) := h
/-- the law's names and texts, as tuples -/
noncomputable def NamesAt (own : List (Addr × Obj)) (NL : Addr) (ts : List Addr) : Prop :=
  ts.length = 9 ∧ (∃ n, (NL, W.listOf (ts.map Value.ref).toArray n) ∈ own) ∧ ∀ k p, ts[k]? = some p → ∃ t u n, (p, tupO [.str (nmA k) t, .str (txA k) u] n) ∈ own
/-- the cells of the law's call -/
noncomputable abbrev cells4 (L : Addr) (o1 o2 o3 o4 : Obj) (own : List (Addr × Obj)) : List (Addr × Obj) := (L + 1 + 1 + 1 + 1, o4) :: (L + 1 + 1 + 1, o3) :: (L + 1 + 1, o2) :: (L + 1, o1) :: own
/-- where the law stands between two statements -/
inductive LawAt (h₀ : Heap) (L : Addr) (s₀ : Shared) (b : Int) (fo : Option Value) (fs : (Str → Option Value) → Option Value → Addr → List (Addr × Obj) → Prop) (s' : Shared) : Prop
  | mk (h : Heap) (tk : Nat) (m : Str → Option Value) (P C NL : Addr) (st pl : Int) (t1 t2 : Tok) (cv : List Value) (ns : List Int) (n nC : Nat) (o1 o2 o3 o4 : Obj) (ft : Option Value) (own : List (Addr × Obj))
    (e : s' = { s₀ with heap := h, toks := tk }) (F : Fr h₀ L h m) (N : News h₀ L h (potL P C st pl t1 t2 cv n nC (cells4 L o1 o2 o3 o4 own))) (hi : IntsAre cv ns) (hl : ns.length ≤ 100) (hp0 : 0 ≤ pl) (hp1 : pl ≤ b) (off : Off2 P C (cells4 L o1 o2 o3 o4 own)) (oo : OwnOff own [L + 1, L + 1 + 1, L + 1 + 1 + 1, L + 1 + 1 + 1 + 1])
    (d1 : o1.data = .cell (some (.ref NL))) (d2 : o2.data = .cell (some (.ref P))) (d3 : o3.data = .cell fo) (d4 : o4.data = .cell ft) (hf : fs m ft NL own)
theorem off_swap {P C : Addr} {ns cs cs' : List (Addr × Obj)} (h : Off2 P C (ns ++ cs')) (e : cs.map (·.1) = cs'.map (·.1)) : Off2 P C (cs ++ ns) := by
  refine ⟨h.1, fun p hp => ?_⟩
  rcases List.mem_append.mp hp with hp | hp
  · have h1 : p.1 ∈ cs'.map (·.1) := e ▸ List.mem_map.mpr ⟨p, hp, rfl⟩
    obtain ⟨q, hq, hqe⟩ := List.mem_map.mp h1
    have h2 := h.2 q (List.mem_append_right _ hq)
    rw [hqe] at h2
    exact h2
  · exact h.2 p (List.mem_append_left _ hp)
theorem off_cells {P C L : Addr} {o1 o2 o3 o4 q1 q2 q3 q4 : Obj} {own : List (Addr × Obj)} (h : Off2 P C (cells4 L o1 o2 o3 o4 own)) : Off2 P C (cells4 L q1 q2 q3 q4 own) := by
  refine ⟨h.1, fun p hp => ?_⟩
  simp only [List.mem_cons] at hp
  rcases hp with e | e | e | e | e
  · rw [e]; exact h.2 (L + 1 + 1 + 1 + 1, o4) (.head _)
  · rw [e]; exact h.2 (L + 1 + 1 + 1, o3) (.tail _ (.head _))
  · rw [e]; exact h.2 (L + 1 + 1, o2) (.tail _ (.tail _ (.head _)))
  · rw [e]; exact h.2 (L + 1, o1) (.tail _ (.tail _ (.tail _ (.head _))))
  · exact h.2 p (.tail _ (.tail _ (.tail _ (.tail _ e))))
theorem put_own {P C L : Addr} {st pl : Int} {t1 t2 : Tok} {cv : List Value} {n nC : Nat} {o1 o2 o3 o4 : Obj} {own : List (Addr × Obj)} {x p : Addr × Obj} (h : p ∈ potL P C st pl t1 t2 cv n nC (cells4 L o1 o2 o3 o4 (x :: own))) : p ∈ x :: potL P C st pl t1 t2 cv n nC (cells4 L o1 o2 o3 o4 own) := by
  simp only [List.mem_cons] at h ⊢
  rcases h with h | h | h | h | h | h | h | h
  · exact .inr (.inl h)
  · exact .inr (.inr (.inl h))
  · exact .inr (.inr (.inr (.inl h)))
  · exact .inr (.inr (.inr (.inr (.inl h))))
  · exact .inr (.inr (.inr (.inr (.inr (.inl h)))))
  · exact .inr (.inr (.inr (.inr (.inr (.inr (.inl h))))))
  · exact .inl h
  · exact .inr (.inr (.inr (.inr (.inr (.inr (.inr h))))))
theorem off_own {P C L : Addr} {o1 o2 o3 o4 : Obj} {own : List (Addr × Obj)} {x : Addr × Obj} (h : Off2 P C (cells4 L o1 o2 o3 o4 own)) (h1 : x.1 ≠ P) (h2 : x.1 ≠ C) : Off2 P C (cells4 L o1 o2 o3 o4 (x :: own)) := by
  refine ⟨h.1, fun p hp => ?_⟩
  simp only [List.mem_cons] at hp
  rcases hp with e | e | e | e | e | e
  · exact h.2 p (by rw [e]; exact .head _)
  · exact h.2 p (by rw [e]; exact .tail _ (.head _))
  · exact h.2 p (by rw [e]; exact .tail _ (.tail _ (.head _)))
  · exact h.2 p (by rw [e]; exact .tail _ (.tail _ (.tail _ (.head _))))
  · rw [e]; exact ⟨h1, h2⟩
  · exact h.2 p (.tail _ (.tail _ (.tail _ (.tail _ e))))
theorem NamesAt.mono {own own' : List (Addr × Obj)} {NL : Addr} {ts : List Addr} (k : ∀ p ∈ own, p ∈ own') (h : NamesAt own NL ts) : NamesAt own' NL ts :=
  ⟨h.1, let ⟨n, a⟩ := h.2.1; ⟨n, k _ a⟩, fun i p hp => let ⟨t, u, n, a⟩ := h.2.2 i p hp; ⟨t, u, n, k _ a⟩⟩
/-- the law's rows -/
noncomputable abbrev rowsO (nts : List Addr) (cs : List Nat) (n : Nat) : Obj := W.listOf (cs.map fun k => Value.ref (nts.getD k 0)).toArray n
theorem rows_ok : CodesOk ((List.range 256).map fun c => (7 * c + 1) % 9) := by
  refine ⟨by simp, fun k hk => ?_⟩
  obtain ⟨c, _, rfl⟩ := List.mem_map.mp hk
  exact Nat.mod_lt _ (by decide)
theorem ownOff_cons {own : List (Addr × Obj)} {x : Addr × Obj} {a b c d : Addr} (h : OwnOff own [a, b, c, d]) (h1 : x.1 ≠ a) (h2 : x.1 ≠ b) (h3 : x.1 ≠ c) (h4 : x.1 ≠ d) : OwnOff (x :: own) [a, b, c, d] := by
  intro p hp e he
  rcases List.mem_cons.mp hp with rfl | hp
  · simp only [List.mem_cons, List.not_mem_nil, or_false] at he
    rcases he with rfl | rfl | rfl | rfl
    · exact h1
    · exact h2
    · exact h3
    · exact h4
  · exact h p hp e he
theorem ownOff_nil {adr : List Addr} : OwnOff [] adr := fun _ h => nomatch h
theorem ownOff_lt {own : List (Addr × Obj)} {x : Addr × Obj} {a : Addr} (h : OwnOff own [a, a + 1, a + 1 + 1, a + 1 + 1 + 1]) (h1 : @LT.lt Nat _ (a + 1 + 1 + 1) x.1) : OwnOff (x :: own) [a, a + 1, a + 1 + 1, a + 1 + 1 + 1] :=
  ownOff_cons h (Nat.ne_of_gt (Nat.lt_of_succ_lt (Nat.lt_of_succ_lt (Nat.lt_of_succ_lt h1)))) (Nat.ne_of_gt (Nat.lt_of_succ_lt (Nat.lt_of_succ_lt h1))) (Nat.ne_of_gt (Nat.lt_of_succ_lt h1)) (Nat.ne_of_gt h1)
theorem swap_mem {α : Type} {a b p : α} {cs ns : List α} (h : p ∈ a :: b :: (cs ++ ns)) : p ∈ a :: b :: (ns ++ cs) := by
  simp only [List.mem_cons, List.mem_append] at *
  rcases h with h | h | h | h
  · exact .inl h
  · exact .inr (.inl h)
  · exact .inr (.inr (.inr h))
  · exact .inr (.inr (.inl h))
theorem txe_0 : Str.ofString "A" = txA 0 := by decide +kernel
theorem txe_1 : Str.ofString " " = txA 1 := by decide +kernel
theorem txe_2 : Str.ofString "ﬁ" = txA 2 := by decide +kernel
theorem txe_3 : Str.ofString "ab" = txA 3 := by decide +kernel
theorem txe_4 : Str.ofString "1" = txA 4 := by decide +kernel
theorem txe_5 : Str.ofString "ЖA" = txA 5 := by decide +kernel
theorem txe_6 : Str.ofString "" = txA 6 := by decide +kernel
theorem txe_7 : Str.ofString "" = txA 7 := by decide +kernel
theorem txe_8 : (⟨#[Int.toNat 128512]⟩ : Str) = txA 8 := by decide +kernel
theorem names_of {own : List (Addr × Obj)} {NL a0 a1 a2 a3 a4 a5 a6 a7 a8 : Addr} {n : Nat} (hN : (NL, W.listOf #[.ref a0, .ref a1, .ref a2, .ref a3, .ref a4, .ref a5, .ref a6, .ref a7, .ref a8] n) ∈ own)
    (h0 : ∃ t u n, (a0, tupO [.str (Str.ofString "A") t, .str (Str.ofString "A") u] n) ∈ own)
    (h1 : ∃ t u n, (a1, tupO [.str (Str.ofString "space") t, .str (Str.ofString " ") u] n) ∈ own)
    (h2 : ∃ t u n, (a2, tupO [.str (Str.ofString "fi") t, .str (Str.ofString "ﬁ") u] n) ∈ own)
    (h3 : ∃ t u n, (a3, tupO [.str (Str.ofString "a_b") t, .str (Str.ofString "ab") u] n) ∈ own)
    (h4 : ∃ t u n, (a4, tupO [.str (Str.ofString "one.alt") t, .str (Str.ofString "1") u] n) ∈ own)
    (h5 : ∃ t u n, (a5, tupO [.str (Str.ofString "uni04160041") t, .str (Str.ofString "ЖA") u] n) ∈ own)
    (h6 : ∃ t u n, (a6, tupO [.str (Str.ofString "what") t, .str (Str.ofString "") u] n) ∈ own)
    (h7 : ∃ t u n, (a7, tupO [.str (Str.ofString "") t, .str (Str.ofString "") u] n) ∈ own)
    (h8 : ∃ t u n, (a8, tupO [.str (Str.ofString "u1F600") t, .str (⟨#[Int.toNat 128512]⟩) u] n) ∈ own)
    : NamesAt own NL [a0, a1, a2, a3, a4, a5, a6, a7, a8] := by
  refine ⟨rfl, ⟨n, hN⟩, fun k p hk => ?_⟩
  have hk9 : k < 9 := (List.getElem?_eq_some_iff.mp hk).1
  match k, hk9 with
  | 0, _ => cases hk; rw [txe_0] at h0; exact h0
  | 1, _ => cases hk; rw [txe_1] at h1; exact h1
  | 2, _ => cases hk; rw [txe_2] at h2; exact h2
  | 3, _ => cases hk; rw [txe_3] at h3; exact h3
  | 4, _ => cases hk; rw [txe_4] at h4; exact h4
  | 5, _ => cases hk; rw [txe_5] at h5; exact h5
  | 6, _ => cases hk; rw [txe_6] at h6; exact h6
  | 7, _ => cases hk; rw [txe_7] at h7; exact h7
  | 8, _ => cases hk; rw [txe_8] at h8; exact h8
end Mine
end
section
open PySem PySem.W PyProof.Rows PySem.Spec PyProof.V
namespace Mine
theorem pot_rot {P C : Addr} {st pl : Int} {t1 t2 : Tok} {cv : List Value} {n nC : Nat} {own : List (Addr × Obj)} {x p : Addr × Obj} (h : p ∈ potL P C st pl t1 t2 cv n nC (x :: own)) : p ∈ x :: potL P C st pl t1 t2 cv n nC own := by
  simp only [List.mem_cons] at h ⊢
  rcases h with h | h | h | h
  · exact .inr (.inl h)
  · exact .inr (.inr (.inl h))
  · exact .inl h
  · exact .inr (.inr (.inr h))
theorem news_rot {h₀ h : Heap} {L P C : Addr} {st pl : Int} {t1 t2 : Tok} {cv : List Value} {n nC : Nat} {own : List (Addr × Obj)} {x : Addr × Obj} (N : News h₀ L h (x :: potL P C st pl t1 t2 cv n nC own)) : News h₀ L h (potL P C st pl t1 t2 cv n nC (x :: own)) :=
  fun p hp => N p (pot_rot hp)
theorem pot_tor {P C : Addr} {st pl : Int} {t1 t2 : Tok} {cv : List Value} {n nC : Nat} {own : List (Addr × Obj)} {x p : Addr × Obj} (h : p ∈ x :: potL P C st pl t1 t2 cv n nC own) : p ∈ potL P C st pl t1 t2 cv n nC (x :: own) := by
  simp only [List.mem_cons] at h ⊢
  rcases h with h | h | h | h
  · exact .inr (.inr (.inl h))
  · exact .inl h
  · exact .inr (.inl h)
  · exact .inr (.inr (.inr h))
theorem off2_cons {P C : Addr} {own : List (Addr × Obj)} {x : Addr × Obj} (h : Off2 P C own) (h1 : x.1 ≠ P) (h2 : x.1 ≠ C) : Off2 P C (x :: own) := by
  refine ⟨h.1, fun p hp => ?_⟩
  rcases List.mem_cons.mp hp with rfl | hp
  · exact ⟨h1, h2⟩
  · exact h.2 p hp
theorem off2_sub {P C : Addr} {own own' : List (Addr × Obj)} (h : Off2 P C own) (k : ∀ p ∈ own', ∃ q ∈ own, q.1 = p.1) : Off2 P C own' :=
  ⟨h.1, fun p hp => let ⟨q, hq, e⟩ := k p hp; e ▸ h.2 q hq⟩
theorem same_head {L R : Addr} {o1 o2 o3 o4 o o' : Obj} {own : List (Addr × Obj)} : ∀ p ∈ cells4 L o1 o2 o3 o4 ((R, o') :: own), ∃ q ∈ cells4 L o1 o2 o3 o4 ((R, o) :: own), q.1 = p.1 := by
  intro p hp
  simp only [List.mem_cons] at hp
  rcases hp with e | e | e | e | e | e
  · exact ⟨(L + 1 + 1 + 1 + 1, o4), .head _, by rw [e]⟩
  · exact ⟨(L + 1 + 1 + 1, o3), .tail _ (.head _), by rw [e]⟩
  · exact ⟨(L + 1 + 1, o2), .tail _ (.tail _ (.head _)), by rw [e]⟩
  · exact ⟨(L + 1, o1), .tail _ (.tail _ (.tail _ (.head _))), by rw [e]⟩
  · exact ⟨(R, o), .tail _ (.tail _ (.tail _ (.tail _ (.head _)))), by rw [e]⟩
  · exact ⟨p, .tail _ (.tail _ (.tail _ (.tail _ (.tail _ e)))), rfl⟩
theorem off_head {P C L R : Addr} {o1 o2 o3 o4 o o' : Obj} {own : List (Addr × Obj)} (h : Off2 P C (cells4 L o1 o2 o3 o4 ((R, o) :: own))) : Off2 P C (cells4 L o1 o2 o3 o4 ((R, o') :: own)) :=
  off2_sub h same_head
theorem pot_off {P C I : Addr} {st pl st' pl' : Int} {t1 t2 t1' t2' : Tok} {cv cv' : List Value} {n nC n' nC' : Nat} {own own' : List (Addr × Obj)} (h : ∀ p ∈ potL P C st pl t1 t2 cv n nC own, p.1 ≠ I) (k : ∀ p ∈ own', ∃ q ∈ own, q.1 = p.1) : ∀ p ∈ potL P C st' pl' t1' t2' cv' n' nC' own', p.1 ≠ I := by
  intro p hp
  rcases List.mem_cons.mp hp with rfl | hp
  · exact h (P, W.listOf #[.ref C, .int st t1, .int pl t2] n) (.head _)
  · rcases List.mem_cons.mp hp with rfl | hp
    · exact h (C, W.listOf cv.toArray nC) (.tail _ (.head _))
    · obtain ⟨q, hq, e⟩ := k p hp
      exact e ▸ h q (.tail _ (.tail _ hq))
theorem ownOff_head {R : Addr} {o o' : Obj} {own : List (Addr × Obj)} {as : List Addr} (h : OwnOff ((R, o) :: own) as) : OwnOff ((R, o') :: own) as := by
  intro p hp e he
  rcases List.mem_cons.mp hp with rfl | hp
  · exact h (R, o) (.head _) e he
  · exact h p (.tail _ hp) e he
theorem codes_set {cs : List Nat} (h : CodesOk cs) {k c : Nat} (hc : c < 9) : CodesOk (cs.set k c) := by
  refine ⟨by rw [List.length_set]; exact h.1, fun x hx => ?_⟩
  rcases List.mem_or_eq_of_mem_set hx with hx | rfl
  · exact h.2 x hx
  · exact hc
theorem rowsO_set (nts : List Addr) (cs : List Nat) (n k c : Nat) : W.listOf ((cs.map fun k => Value.ref (nts.getD k 0)).set k (.ref (nts.getD c 0))).toArray n = rowsO nts (cs.set k c) n := by
  rw [rowsO, List.map_set]
section
variable {prog : Program} {w : World} {A : Around} {E : Value → Shared → Prop} {s : Shared} {env : Env} {h₀ : Heap} {L : Addr} {x : Str} {body : List Stmt} {Q : Flow → Shared → Prop}
theorem range_loopL {r : Addr} {a b c : Int} {t u v : Tok} {n : Nat} {m₀ : Str → Option Value} {news : List (Addr × Obj)} (hL : env.locals = L) (J : Nat → (Str → Option Value) → List (Addr × Obj) → Prop)
    (hh : A.handled = none) (F : Fr h₀ L s.heap m₀) (N : News h₀ L s.heap news) (hr : IsRange s.heap r a b c t u v) (hsm : Builtin.Range.small a b c = true) (hn : Builtin.Range.rangeSize a b c = ((n : Nat) : Int)) (hj : J 0 m₀ news)
    (turn : ∀ i u m₁ nw h tk I oI, i < n → oI.cls = .type "range_iterator" → J i m₁ nw → (∀ p ∈ nw, p.1 ≠ I) → Fr h₀ L h (fun y => if y = x then some (.int (a + (i : Int) * c) u) else m₁ y) → News h₀ L h ((I, oI) :: nw) →
      ∀ Tn : Flow → Shared → Prop, (∀ f s₂, TurnEnd h₀ L (J (i + 1)) I oI { s with heap := h, toks := tk } Q f s₂ → Tn f s₂) → wpAny (model prog w) A (execs body env) Tn E { s with heap := h, toks := tk })
    (done : ∀ m₁ nw h tk, J n m₁ nw → Fr h₀ L h m₁ → News h₀ L h nw → Q .next { s with heap := h, toks := tk }) :
    wpAny (model prog w) A (pyIter (.ref r)) (fun it s₂ => LoopAtV prog w A h₀ env x body Q E it s₂) E s := by
  subst hL
  exact range_loop J hh F N hr hsm hn hj (fun i u m₁ nw h tk I oI a b c d e f => turn i u m₁ nw h tk I oI a b c d e f _ fun _ _ z => z) done
theorem bytes_loopL {b : Array UInt8} {t : Tok} {m₀ : Str → Option Value} {news : List (Addr × Obj)} (hL : env.locals = L) (J : Nat → (Str → Option Value) → List (Addr × Obj) → Prop)
    (hh : A.handled = none) (F : Fr h₀ L s.heap m₀) (N : News h₀ L s.heap news) (hj : J 0 m₀ news)
    (turn : ∀ i (n : UInt8) u m₁ nw h tk I oI, b[i]? = some n → J i m₁ nw → (∀ p ∈ nw, p.1 ≠ I) → Fr h₀ L h (fun y => if y = x then some (.int (n.toNat : Int) u) else m₁ y) → News h₀ L h ((I, oI) :: nw) →
      ∀ Tn : Flow → Shared → Prop, (∀ f s₂, TurnEnd h₀ L (J (i + 1)) I oI { s with heap := h, toks := tk } Q f s₂ → Tn f s₂) → wpAny (model prog w) A (execs body env) Tn E { s with heap := h, toks := tk })
    (done : ∀ m₁ nw h tk, J b.size m₁ nw → Fr h₀ L h m₁ → News h₀ L h nw → Q .next { s with heap := h, toks := tk }) :
    wpAny (model prog w) A (pyIter (.bytes b t)) (fun it s₂ => LoopAtV prog w A h₀ env x body Q E it s₂) E s := by
  subst hL
  exact bytes_loop J hh F N hj (fun i n u m₁ nw h tk I oI a b c d e => turn i n u m₁ nw h tk I oI a b c d e _ fun _ _ z => z) done
end
/-- where the law stands, by its fixed parts -/
inductive LawB (h₀ : Heap) (L : Addr) (s₀ : Shared) (P C : Addr) (o1 o2 o3 : Obj) (b : Int) (ft : Option Value) (fs : (Str → Option Value) → List (Addr × Obj) → Prop) (s' : Shared) : Prop
  | mk (h : Heap) (tk : Nat) (m : Str → Option Value) (st pl : Int) (t1 t2 : Tok) (cv : List Value) (ns : List Int) (n nC : Nat) (o4 : Obj) (own : List (Addr × Obj)) (e : s' = { s₀ with heap := h, toks := tk }) (F : Fr h₀ L h m) (N : News h₀ L h (potL P C st pl t1 t2 cv n nC (cells4 L o1 o2 o3 o4 own))) (hi : IntsAre cv ns) (hl : ns.length ≤ 100) (hp0 : 0 ≤ pl) (hp1 : pl ≤ b)
    (off : Off2 P C (cells4 L o1 o2 o3 o4 own)) (oo : OwnOff own [L + 1, L + 1 + 1, L + 1 + 1 + 1, L + 1 + 1 + 1 + 1]) (d4 : o4.data = .cell ft) (hf : fs m own)
theorem law_segB {M : Model} {A : Around} {E : Value → Shared → Prop} {s : Shared} {env : Env} {a : Stmt} {rest : List Stmt} {Q : Flow → Shared → Prop} (h₀ : Heap) (L : Addr) (s₀ : Shared) (P C : Addr) (o1 o2 o3 : Obj) (b : Int) (ft : Option Value) (fs : (Str → Option Value) → List (Addr × Obj) → Prop)
    (h1 : ∀ Md : Shared → Prop, (∀ s', LawB h₀ L s₀ P C o1 o2 o3 b ft fs s' → Md s') → wpAny M A (exec a env) (fun f s' => match f with | .next => Md s' | f => Q f s') E s)
    (h2 : ∀ (h : Heap) (tk : Nat) (m : Str → Option Value) (st pl : Int) (t1 t2 : Tok) (cv : List Value) (ns : List Int) (n nC : Nat) (o4 : Obj) (own : List (Addr × Obj)), Fr h₀ L h m → News h₀ L h (potL P C st pl t1 t2 cv n nC (cells4 L o1 o2 o3 o4 own)) → IntsAre cv ns → ns.length ≤ 100 → 0 ≤ pl → pl ≤ b →
      Off2 P C (cells4 L o1 o2 o3 o4 own) → OwnOff own [L + 1, L + 1 + 1, L + 1 + 1 + 1, L + 1 + 1 + 1 + 1] → o4.data = .cell ft → fs m own → wpAny M A (execs rest env) Q E { s₀ with heap := h, toks := tk }) :
    wpAny M A (execs (a :: rest) env) Q E s :=
  execs_mid (LawB h₀ L s₀ P C o1 o2 o3 b ft fs) (h1 _ fun _ h => h) fun _ x => by
    cases x with
    | mk h tk m st pl t1 t2 cv ns n nC o4 own e F N hi hl hp0 hp1 off oo d4 hf => exact e ▸ h2 h tk m st pl t1 t2 cv ns n nC o4 own F N hi hl hp0 hp1 off oo d4 hf
section
variable {M : Model} {A : Around} {E : Value → Shared → Prop} {s : Shared} {env : Env}
theorem execs_midV {a : Stmt} {rest : List Stmt} {Q : Flow → Shared → Prop} (Mid : Shared → Prop)
    (h1 : ∀ Md : Shared → Prop, (∀ s', Mid s' → Md s') → wpAny M A (exec a env) (fun f s' => match f with | .next => Md s' | f => Q f s') E s) (h2 : ∀ s', Mid s' → wpAny M A (execs rest env) Q E s') : wpAny M A (execs (a :: rest) env) Q E s :=
  execs_mid Mid (h1 _ fun _ h => h) h2
theorem execs_mid2V {a b : Stmt} {rest : List Stmt} {Q : Flow → Shared → Prop} (Mid : Shared → Prop)
    (h1 : ∀ Md : Shared → Prop, (∀ s', Mid s' → Md s') → wpAny M A (exec a env) (fun f s' => match f with | .next => wpAny M A (exec b env) (fun f s' => match f with | .next => Md s' | f => Q f s') E s' | f => Q f s') E s)
    (h2 : ∀ s', Mid s' → wpAny M A (execs rest env) Q E s') : wpAny M A (execs (a :: b :: rest) env) Q E s :=
  execs_mid2 Mid (h1 _ fun _ h => h) h2
end
inductive St1 (m : Str → Option Value) (ft : Option Value) (NL : Addr) (own : List (Addr × Obj)) : Prop
  | mk (hft : ft = none) (nts : List Addr) (hN : NamesAt own NL nts)
inductive St2 (m : Str → Option Value) (ft : Option Value) (NL : Addr) (own : List (Addr × Obj)) : Prop
  | mk (hft : ft = none) (nts : List Addr) (wd : Bool) (hN : NamesAt own NL nts) (hwd : m (Str.ofString "is_wide") = some (.bool wd))
inductive St3 (m : Str → Option Value) (ft : Option Value) (NL : Addr) (own : List (Addr × Obj)) : Prop
  | mk (hft : ft = none) (nts : List Addr) (wd : Bool) (R : Addr) (cs : List Nat) (n : Nat) (own0 : List (Addr × Obj)) (hown : own = (R, rowsO nts cs n) :: own0) (hR : ∀ p ∈ own0, p.1 ≠ R) (hN : NamesAt own0 NL nts) (hcs : CodesOk cs) (hwd : m (Str.ofString "is_wide") = some (.bool wd)) (hrows : m (Str.ofString "rows") = some (.ref R))
inductive Law4 (h₀ : Heap) (L : Addr) (s₀ : Shared) (s' : Shared) : Prop
  | mk (f0 : Int) (tf : Tok) (hf0 : 60 ≤ f0) (hf1 : f0 < 66) (hL : LawAt h₀ L s₀ 2 (some (.int f0 tf)) St3 s')
end Mine
end
section
open PySem PySem.W PyProof.Rows PySem.Spec PyProof.V
namespace Mine
theorem off_new {P C L : Addr} {o1 o2 o3 o4 : Obj} {own : List (Addr × Obj)} {x : Addr × Obj} (h : Off2 P C (cells4 L o1 o2 o3 o4 own)) (h1 : @LT.lt Nat _ P x.1) (h2 : @LT.lt Nat _ C x.1) : Off2 P C (cells4 L o1 o2 o3 o4 (x :: own)) :=
  off_own h (Nat.ne_of_gt h1) (Nat.ne_of_gt h2)
/-- a short text of plain signs -/
noncomputable def ShortS (z : Str) : Prop := z.length ≤ 4 ∧ PyData.canLay0 (.str z) = true
/-- the map's texts are short -/
noncomputable def StrD (D : List (PyData × PyData)) : Prop := ∀ p ∈ D, ∃ z, p.2 = .str z ∧ ShortS z
theorem StrD.nil : StrD [] := fun _ h => nomatch h
theorem StrD.put {D : List (PyData × PyData)} (h : StrD D) {k : PyData} {z : Str} (hz : ShortS z) : StrD (putD k (.str z) D) := by
  intro p hp
  unfold putD at hp
  split at hp
  · obtain ⟨q, hq, rfl⟩ := List.mem_map.mp hp
    split
    · exact ⟨z, rfl, hz⟩
    · exact h q hq
  · rcases List.mem_append.mp hp with hp | hp
    · exact h p hp
    · rw [List.mem_singleton.mp hp]; exact ⟨z, rfl, hz⟩
theorem lookup_mem {k v : PyData} : ∀ {D : List (PyData × PyData)}, lookup k D = some v → ∃ p ∈ D, p.2 = v
  | [], h => nomatch h
  | (a, b) :: r, h => by
    unfold PySem.Spec.lookup at h
    split at h
    · cases h; exact ⟨_, .head _, rfl⟩
    · obtain ⟨p, hp, e⟩ := lookup_mem h
      exact ⟨p, .tail _ hp, e⟩
theorem StrD.map {D : List (PyData × PyData)} (h : StrD D) (hm : Bool) : StrMap (if hm then some D else none) := by
  intro D' e k v hv
  cases hm with
  | false => cases e
  | true =>
    cases e
    obtain ⟨p, hp, rfl⟩ := lookup_mem hv
    obtain ⟨z, e, hz⟩ := h p hp
    exact ⟨z, e, hz.1⟩
section
variable {prog : Program} {w : World} {A : Around} {E : Value → Shared → Prop} {s : Shared} {h₀ : Heap} {L : Addr} {m : Str → Option Value} {K : Type} [DecidableEq K] {knd : KeyKind prog w K} {enc : K → PyData}
/-- a store into a table with tuples as keys that lies in the ledger's rest -/
theorem put_tab {front own : List (Addr × Obj)} {d a : Addr} {D : List (PyData × PyData)} {ks : List K} {ok : Obj} {v : Value} {dv : PyData} {Q : Unit → Shared → Prop} (henc : ∀ a b, same (enc a) (enc b) = decide (a = b)) (hu : A.units + 1 < cLine) (hv : Flat v dv)
    (F : Fr h₀ L s.heap m) (N : News h₀ L s.heap (front ++ own)) (T : TupTab knd enc own d D) (hka : (a, ok) ∈ own) (tk : TupKeyObj knd ks ok) (hfr : ∀ p ∈ front, ¬ ∃ items n, p.2.cls = .type "tuple" ∧ p.2.data = .seq items n) (off : ∀ p ∈ own, ∀ q ∈ front, p.1 ≠ q.1)
    (h : ∀ h' own', Fr h₀ L h' m → News h₀ L h' (front ++ own') → TupTab knd enc own' d (putD (encTuple enc ks) dv D) → (∀ p ∈ own, p.1 ≠ d → p ∈ own') → (∀ p ∈ own', ∀ q ∈ front, p.1 ≠ q.1) → Q () { s with heap := h', toks := s.toks + (ks.length + 1) })
    (hsz : D.length ≤ sizeLine) : wpAny (model prog w) A (setItem (.ref d) (.ref a) v) Q E s := by
  have hd : ∃ o, (d, o) ∈ own := by obtain ⟨_, o, _, _, _, hm, _⟩ := T; exact ⟨o, hm⟩
  obtain ⟨od, hod⟩ := hd
  refine setItem_tupTab (knd := knd) (enc := enc) henc hu hv F N (tab_mono (fun p hp => List.mem_append_right _ hp) T) (List.mem_append_right _ hka) tk (fun h' news' F' N' T' hk' keep => ?_) hsz
  have hfrn : ∀ p ∈ front, p ∈ news' := fun p hp => keep p (List.mem_append_left _ hp) fun e => off _ hod _ hp e.symm
  have hfil : ∀ p, p ∈ news'.filter (fun p => front.all fun q => decide (p.1 ≠ q.1)) ↔ p ∈ news' ∧ ∀ q ∈ front, p.1 ≠ q.1 := fun p => by simp [List.mem_filter]
  refine h h' (news'.filter fun p => front.all fun q => decide (p.1 ≠ q.1)) F' (fun p hp => ?_) ?_ (fun p hp hpd => (hfil p).mpr ⟨keep p (List.mem_append_right _ hp) hpd, fun q hq => off p hp q hq⟩) (fun p hp => ((hfil p).mp hp).2)
  · rcases List.mem_append.mp hp with hp | hp
    · exact N' p (hfrn p hp)
    · exact N' p ((hfil p).mp hp).1
  · obtain ⟨lo, o, es, ep, xs, hm, hc, hdd, he, hn, hk, hf⟩ := T'
    refine ⟨lo, o, es, ep, xs, (hfil _).mpr ⟨hm, fun q hq => off (d, od) hod q hq⟩, hc, hdd, he, hn, fun x hx => ?_, hf⟩
    obtain ⟨okx, hmk, t⟩ := hk x hx
    refine ⟨okx, (hfil _).mpr ⟨hmk, fun q hq e => ?_⟩, t⟩
    have h1 := (N' _ hmk).1
    have h2 := (N' _ (hfrn q hq)).1
    have e' : x.2.1 = q.1 := e
    have h3 : okx = q.2 := by
      have h1' : h'.get? x.2.1 = some okx := h1
      rw [e', h2] at h1'
      exact (Option.some.inj h1').symm
    obtain ⟨tc, items, n, td, _⟩ := t
    exact hfr q hq ⟨items, n, h3 ▸ tc, h3 ▸ td⟩
/-- the same, with the pot, a loop's own iterator and the law's cells ahead -/
theorem put_map {P C I : Addr} {st pl : Int} {t1 t2 : Tok} {cv : List Value} {n nC : Nat} {oI o1 o2 o3 o4 : Obj} {c1 c2 c3 c4 : Option Value} {own : List (Addr × Obj)} {d a : Addr} {D : List (PyData × PyData)} {ks : List K} {ok : Obj} {v : Value} {dv : PyData} {Q : Unit → Shared → Prop} (henc : ∀ a b, same (enc a) (enc b) = decide (a = b)) (hu : A.units + 1 < cLine) (hv : Flat v dv)
    (F : Fr h₀ L s.heap m) (N : News h₀ L s.heap (potL P C st pl t1 t2 cv n nC ((I, oI) :: cells4 L o1 o2 o3 o4 own))) (T : TupTab knd enc own d D) (hka : (a, ok) ∈ own) (tk : TupKeyObj knd ks ok)
    (hI : oI.cls = .type "range_iterator") (d1 : o1.data = .cell c1) (d2 : o2.data = .cell c2) (d3 : o3.data = .cell c3) (d4 : o4.data = .cell c4)
    (off : Off2 P C (cells4 L o1 o2 o3 o4 own)) (oo : OwnOff own [L + 1, L + 1 + 1, L + 1 + 1 + 1, L + 1 + 1 + 1 + 1]) (hoff : ∀ p ∈ own, p.1 ≠ I)
    (h : ∀ h' own', Fr h₀ L h' m → News h₀ L h' (potL P C st pl t1 t2 cv n nC ((I, oI) :: cells4 L o1 o2 o3 o4 own')) → TupTab knd enc own' d (putD (encTuple enc ks) dv D) → (∀ p ∈ own, p.1 ≠ d → p ∈ own') →
      Off2 P C (cells4 L o1 o2 o3 o4 own') → OwnOff own' [L + 1, L + 1 + 1, L + 1 + 1 + 1, L + 1 + 1 + 1 + 1] → (∀ p ∈ own', p.1 ≠ I) → Q () { s with heap := h', toks := s.toks + (ks.length + 1) })
    (hsz : D.length ≤ sizeLine) : wpAny (model prog w) A (setItem (.ref d) (.ref a) v) Q E s := by
  have cellno : ∀ {o : Obj} {c : Option Value}, o.data = .cell c → ¬ ∃ items n, o.cls = .type "tuple" ∧ o.data = .seq items n := by
    rintro o c e ⟨items, n, _, e'⟩
    rw [e] at e'; cases e'
  refine put_tab (front := potL P C st pl t1 t2 cv n nC ((I, oI) :: cells4 L o1 o2 o3 o4 [])) henc hu hv F N T hka tk ?_ ?_ (fun h' own' F' N' T' keep k => ?_) hsz
  · intro p hp
    simp only [List.mem_cons, List.not_mem_nil, or_false] at hp
    rcases hp with rfl | rfl | rfl | rfl | rfl | rfl | rfl
    · rintro ⟨_, _, e, _⟩; exact absurd (show Value.type "list" = .type "tuple" from e) (by decide)
    · rintro ⟨_, _, e, _⟩; exact absurd (show Value.type "list" = .type "tuple" from e) (by decide)
    · rintro ⟨_, _, e, _⟩
      exact absurd (hI.symm.trans e) (by decide)
    · exact cellno d4
    · exact cellno d3
    · exact cellno d2
    · exact cellno d1
  · intro p hp q hq
    have hpc : p ∈ cells4 L o1 o2 o3 o4 own := .tail _ (.tail _ (.tail _ (.tail _ hp)))
    simp only [List.mem_cons, List.not_mem_nil, or_false] at hq
    rcases hq with rfl | rfl | rfl | rfl | rfl | rfl | rfl
    · exact (off.2 p hpc).1
    · exact (off.2 p hpc).2
    · exact hoff p hp
    · exact oo p hp _ (.tail _ (.tail _ (.tail _ (.head _))))
    · exact oo p hp _ (.tail _ (.tail _ (.head _)))
    · exact oo p hp _ (.tail _ (.head _))
    · exact oo p hp _ (.head _)
  · refine h h' own' F' N' T' keep ⟨off.1, fun p hp => ?_⟩ (fun p hp e he => ?_) (fun p hp => k p hp (I, oI) (.tail _ (.tail _ (.head _))))
    · simp only [List.mem_cons] at hp
      rcases hp with rfl | rfl | rfl | rfl | hp
      · exact off.2 (L + 1 + 1 + 1 + 1, o4) (.head _)
      · exact off.2 (L + 1 + 1 + 1, o3) (.tail _ (.head _))
      · exact off.2 (L + 1 + 1, o2) (.tail _ (.tail _ (.head _)))
      · exact off.2 (L + 1, o1) (.tail _ (.tail _ (.tail _ (.head _))))
      · exact ⟨k p hp (P, W.listOf #[.ref C, .int st t1, .int pl t2] n) (.head _), k p hp (C, W.listOf cv.toArray nC) (.tail _ (.head _))⟩
    · simp only [List.mem_cons, List.not_mem_nil, or_false] at he
      rcases he with rfl | rfl | rfl | rfl
      · exact k p hp (L + 1, o1) (.tail _ (.tail _ (.tail _ (.tail _ (.tail _ (.tail _ (.head _)))))))
      · exact k p hp (L + 1 + 1, o2) (.tail _ (.tail _ (.tail _ (.tail _ (.tail _ (.head _))))))
      · exact k p hp (L + 1 + 1 + 1, o3) (.tail _ (.tail _ (.tail _ (.tail _ (.head _)))))
      · exact k p hp (L + 1 + 1 + 1 + 1, o4) (.tail _ (.tail _ (.tail _ (.head _))))
theorem pot_offI {P C I : Addr} {st pl st' pl' : Int} {t1 t2 t1' t2' : Tok} {cv cv' : List Value} {n nC n' nC' : Nat} {o1 o2 o3 o4 : Obj} {own own' : List (Addr × Obj)} (h : ∀ p ∈ potL P C st pl t1 t2 cv n nC (cells4 L o1 o2 o3 o4 own), p.1 ≠ I) (k : ∀ p ∈ own', p.1 ≠ I) : ∀ p ∈ potL P C st' pl' t1' t2' cv' n' nC' (cells4 L o1 o2 o3 o4 own'), p.1 ≠ I := by
  intro p hp
  simp only [List.mem_cons] at hp
  rcases hp with rfl | rfl | rfl | rfl | rfl | rfl | hp
  · exact h (P, W.listOf #[.ref C, .int st t1, .int pl t2] n) (.head _)
  · exact h (C, W.listOf cv.toArray nC) (.tail _ (.head _))
  · exact h (L + 1 + 1 + 1 + 1, o4) (.tail _ (.tail _ (.head _)))
  · exact h (L + 1 + 1 + 1, o3) (.tail _ (.tail _ (.tail _ (.head _))))
  · exact h (L + 1 + 1, o2) (.tail _ (.tail _ (.tail _ (.tail _ (.head _)))))
  · exact h (L + 1, o1) (.tail _ (.tail _ (.tail _ (.tail _ (.tail _ (.head _))))))
  · exact k p hp
theorem keep_of {h : Heap} {own own' : List (Addr × Obj)} {d : Addr} {D : List (PyData × PyData)} (T : TupTab knd enc own d D) (N : News h₀ L h own) (keep : ∀ p ∈ own, p.1 ≠ d → p ∈ own') : ∀ p ∈ own, p.2.cls ≠ .type "dict" → p ∈ own' := by
  obtain ⟨lo, o, es, ep, xs, hm, hc, hd, he, hn, hk, hf⟩ := T
  intro p hp hpc
  refine keep p hp fun e => hpc ?_
  have h1 := (N p hp).1
  rw [e, (N _ hm).1] at h1
  rw [← Option.some.inj h1]
  exact hc.1
theorem sub_menu4 {value slice : PySem.Expr} {l : Addr} {a b c d : Str} {t1 t2 t3 t4 u : Tok} {n : Nat} {k : Int} {news : List (Addr × Obj)} {Q : Value → Shared → Prop} (N : News h₀ L s.heap news) (hl : (l, W.listOf #[.str a t1, .str b t2, .str c t3, .str d t4] n) ∈ news) (h0 : 0 ≤ k) (h1 : k < 4)
    (ha : ShortS a) (hb : ShortS b) (hc : ShortS c) (hd : ShortS d) (h : ∀ z y, ShortS z → Q (.str z y) s)
    (hs : subscripted slice false (.ref l) (.int k u) = operate [.ref l, .int k u] (getItem (.ref l) (.int k u)) := by with_unfolding_all rfl) :
    wpAny (model prog w) A (subscriptTail value slice (.ref l) (.int k u)) Q E s := by
  have hm : ∃ z y, [Value.str a t1, .str b t2, .str c t3, .str d t4][k.toNat]? = some (.str z y) ∧ ShortS z := by
    have hk : k.toNat < 4 := by omega
    generalize k.toNat = j at hk
    match j, hk with
    | 0, _ => exact ⟨a, t1, rfl, ha⟩
    | 1, _ => exact ⟨b, t2, rfl, hb⟩
    | 2, _ => exact ⟨c, t3, rfl, hc⟩
    | 3, _ => exact ⟨d, t4, rfl, hd⟩
  obtain ⟨z, y, e, hz⟩ := hm
  exact sub_any (News.isList N hl) h0 (by omega) e (h z y hz) hs
end
theorem NamesAt.keep {own own' : List (Addr × Obj)} {NL : Addr} {ts : List Addr} (k : ∀ p ∈ own, p.2.cls ≠ .type "dict" → p ∈ own') (h : NamesAt own NL ts) : NamesAt own' NL ts :=
  ⟨h.1, let ⟨n, a⟩ := h.2.1; ⟨n, k _ a (show Value.type "list" ≠ .type "dict" by decide)⟩, fun i p hp => let ⟨t, u, n, a⟩ := h.2.2 i p hp; ⟨t, u, n, k _ a (show Value.type "tuple" ≠ .type "dict" by decide)⟩⟩
theorem news_rot2 {h₀ h : Heap} {L P C : Addr} {st pl : Int} {t1 t2 : Tok} {cv : List Value} {n nC : Nat} {own : List (Addr × Obj)} {x y : Addr × Obj} (N : News h₀ L h (x :: y :: potL P C st pl t1 t2 cv n nC own)) : News h₀ L h (potL P C st pl t1 t2 cv n nC (x :: y :: own)) :=
  news_rot fun p hp => by
    rcases List.mem_cons.mp hp with rfl | hp
    · exact N _ (.head _)
    · exact N p (.tail _ (pot_rot hp))
theorem pot_mid {P C I T : Addr} {st pl : Int} {t1 t2 : Tok} {cv : List Value} {n nC : Nat} {L : Addr} {oI o1 o2 o3 o4 oT : Obj} {own : List (Addr × Obj)} {x p : Addr × Obj} (h : p ∈ potL P C st pl t1 t2 cv n nC ((I, oI) :: cells4 L o1 o2 o3 o4 ((T, oT) :: own))) : p ∈ potL P C st pl t1 t2 cv n nC (x :: (T, oT) :: (I, oI) :: cells4 L o1 o2 o3 o4 own) := by
  simp only [List.mem_cons] at h ⊢
  rcases h with h | h | h | h | h | h | h | h | h
  · exact .inl h
  · exact .inr (.inl h)
  · exact .inr (.inr (.inr (.inr (.inl h))))
  · exact .inr (.inr (.inr (.inr (.inr (.inl h)))))
  · exact .inr (.inr (.inr (.inr (.inr (.inr (.inl h))))))
  · exact .inr (.inr (.inr (.inr (.inr (.inr (.inr (.inl h)))))))
  · exact .inr (.inr (.inr (.inr (.inr (.inr (.inr (.inr (.inl h))))))))
  · exact .inr (.inr (.inr (.inl h)))
  · exact .inr (.inr (.inr (.inr (.inr (.inr (.inr (.inr (.inr h))))))))
end Mine
end
section
open PySem PySem.W PyProof.Rows PySem.Spec PyProof.V
namespace Mine
theorem put_owns {P C L : Addr} {st pl : Int} {t1 t2 : Tok} {cv : List Value} {n nC : Nat} {o1 o2 o3 o4 : Obj} {own : List (Addr × Obj)} {p : Addr × Obj} : ∀ {ps : List (Addr × Obj)}, p ∈ potL P C st pl t1 t2 cv n nC (cells4 L o1 o2 o3 o4 (ps ++ own)) → p ∈ ps ++ potL P C st pl t1 t2 cv n nC (cells4 L o1 o2 o3 o4 own)
  | [], h => h
  | x :: ps, h => by
    rcases List.mem_cons.mp (put_own h) with rfl | h
    · exact .head _
    · exact .tail _ (put_owns h)
theorem own_news {P C L : Addr} {o1 o2 o3 o4 : Obj} {own : List (Addr × Obj)} (off : Off2 P C (cells4 L o1 o2 o3 o4 own)) (oo : OwnOff own [L + 1, L + 1 + 1, L + 1 + 1 + 1, L + 1 + 1 + 1 + 1]) : ∀ {ps : List (Addr × Obj)}, (∀ p ∈ ps, @LT.lt Nat _ P p.1 ∧ @LT.lt Nat _ C p.1 ∧ @LT.lt Nat _ (L + 1 + 1 + 1 + 1) p.1) →
    Off2 P C (cells4 L o1 o2 o3 o4 (ps ++ own)) ∧ OwnOff (ps ++ own) [L + 1, L + 1 + 1, L + 1 + 1 + 1, L + 1 + 1 + 1 + 1]
  | [], _ => ⟨off, oo⟩
  | x :: ps, k => by
    obtain ⟨a, b⟩ := own_news off oo (ps := ps) fun p h => k p (.tail _ h)
    have z := k x (.head _)
    exact ⟨off_new a z.1 z.2.1, ownOff_lt b z.2.2⟩
theorem news_split {h₀ h : Heap} {P C L : Addr} {st pl : Int} {t1 t2 : Tok} {cv : List Value} {n nC : Nat} {o1 o2 o3 o4 : Obj} {own : List (Addr × Obj)} (ps : List (Addr × Obj)) (N : News h₀ L h (ps ++ potL P C st pl t1 t2 cv n nC (cells4 L o1 o2 o3 o4 own)))
    (off : Off2 P C (cells4 L o1 o2 o3 o4 own)) (oo : OwnOff own [L + 1, L + 1 + 1, L + 1 + 1 + 1, L + 1 + 1 + 1 + 1]) (k : ∀ p ∈ ps, @LT.lt Nat _ P p.1 ∧ @LT.lt Nat _ C p.1 ∧ @LT.lt Nat _ (L + 1 + 1 + 1 + 1) p.1) :
    News h₀ L h (potL P C st pl t1 t2 cv n nC (cells4 L o1 o2 o3 o4 (ps ++ own))) ∧ Off2 P C (cells4 L o1 o2 o3 o4 (ps ++ own)) ∧ OwnOff (ps ++ own) [L + 1, L + 1 + 1, L + 1 + 1 + 1, L + 1 + 1 + 1 + 1] :=
  ⟨fun p hp => N p (put_owns hp), own_news off oo k⟩
section
variable {prog : Program} {w : World} {A : Around} {h₀ : Heap} {L : Addr} {m : Str → Option Value} {env : Env} {elt : Expr} {x x₂ : Str} {scope : Scope} {cl : List (Str × Addr)} {s : Shared} {S : List (Addr × Obj) → Prop} {P : Nat → Value → Prop} {Fin : List Value → List (Addr × Obj) → Prop} {news : List (Addr × Obj)}
/-- a comprehension over pairs whose elements are texts, told by the source's place -/
theorem pairs_strs {n : Nat} (ts : List Str) (hts : ts.length = n)
    (item : ∀ i v r, P i v → ts[i]? = some r → ∃ (t : Addr) (a b : Tok) (z : Str) (nt : Nat), v = .ref t ∧ (t, tupO [.str r a, .str z b] nt) ∈ news)
    (turn : ∀ r a ys v₂ I oI C oC D m₂ h tk (E' : Value → Shared → Prop), LCg.NsObj oC m₂ → m₂ x = some (.str r a) → m₂ x₂ = some v₂ → Fr h₀ L h m → News h₀ L h ((I, oI) :: (C, oC) :: (D, LCg.lst ys) :: news) → LCg.Off3 I C D news → ((@Ne Nat I C) ∧ (@Ne Nat I D) ∧ (@Ne Nat C D)) →
      wpAny (model prog w) A (eval elt (compEnvC scope cl C env)) (LCg.CompEnd h₀ L m { s with heap := h, toks := tk } I oI C oC D (LCg.lst ys) S (fun y news' => TxEl news r y news')) E' { s with heap := h, toks := tk })
    (fin : ∀ ys, StrsAre ys ts → Fin ys news) : LCp.CompRestP prog w A h₀ L m env elt x x₂ scope cl s S P Fin n 0 [] news := by
  have key : ∀ (j i : Nat) (ys : List Value), i + j = n → StrsAre ys (ts.take i) → LCp.CompRestP prog w A h₀ L m env elt x x₂ scope cl s S P Fin j i ys news := by
    intro j
    induction j with
    | zero =>
      intro i ys hi hy
      have e : i = ts.length := by omega
      subst e
      rw [List.take_length] at hy
      exact LCp.CompRestP.zero (fin ys hy)
    | succ j ih =>
      intro i ys hi hy
      refine LCp.CompRestP.succ ?_
      intro v hv
      have hr : ts[i]? = some ts[i] := by simp
      obtain ⟨t, a, b, z, nt, rfl, hm⟩ := item i v _ hv hr
      refine ⟨t, _, _, _, nt, rfl, hm, rfl, rfl, ?_⟩
      intro I oI C oC D m₂ h tk E' hC hx hx2 F N off ne
      refine wpAny_mono (turn _ a ys _ I oI C oC D m₂ h tk E' hC hx hx2 F N off ne) (fun y s₂ hq => ?_) fun _ _ e => e
      obtain ⟨h', tk', nw, e, F', N', off', hS, hn, t', hy'⟩ := hq
      subst hn
      refine ⟨h', tk', nw, e, F', N', off', hS, ih (i + 1) _ (by omega) ?_⟩
      subst hy'
      have e2 : ts.take (i + 1) = ts.take i ++ [ts[i]] := by rw [List.take_add_one, hr]; rfl
      rw [e2]
      exact strs_snoc hy
  exact key n 0 [] (by omega) .nil
end
/-- what lies at a row -/
theorem row_at {own : List (Addr × Obj)} {NL : Addr} {nts : List Addr} {cs : List Nat} (hN : NamesAt own NL nts) (hc : CodesOk cs) {i k : Nat} (hk : cs[i]? = some k) : ∃ t a b n, (cs.map fun k => Value.ref (nts.getD k 0))[i]? = some (.ref t) ∧ (t, tupO [.str (nmA k) a, .str (txA k) b] n) ∈ own := by
  have hk9 : k < 9 := hc.2 k (List.mem_of_getElem? hk)
  have hl : k < nts.length := by rw [hN.1]; exact hk9
  have hg : nts[k]? = some (nts.getD k 0) := by simp [hl]
  obtain ⟨a, b, n, hm⟩ := hN.2.2 k _ hg
  exact ⟨_, a, b, n, by rw [List.getElem?_map, hk]; rfl, hm⟩
/-- where the law stands when the font is made -/
inductive LawC (h₀ : Heap) (L : Addr) (s₀ : Shared) (P C : Addr) (o1 o2 o3 : Obj) (b : Int) (fs : (Str → Option Value) → List (Addr × Obj) → Option Value → Prop) (s' : Shared) : Prop
  | mk (h : Heap) (tk : Nat) (m : Str → Option Value) (st pl : Int) (t1 t2 : Tok) (cv : List Value) (ns : List Int) (n nC : Nat) (o4 : Obj) (ft : Option Value) (own : List (Addr × Obj)) (e : s' = { s₀ with heap := h, toks := tk }) (F : Fr h₀ L h m) (N : News h₀ L h (potL P C st pl t1 t2 cv n nC (cells4 L o1 o2 o3 o4 own))) (hi : IntsAre cv ns) (hl : ns.length ≤ 100) (hp0 : 0 ≤ pl) (hp1 : pl ≤ b)
    (off : Off2 P C (cells4 L o1 o2 o3 o4 own)) (oo : OwnOff own [L + 1, L + 1 + 1, L + 1 + 1 + 1, L + 1 + 1 + 1 + 1]) (d4 : o4.data = .cell ft) (hf : fs m own ft)
theorem law_segC {M : Model} {A : Around} {E : Value → Shared → Prop} {s : Shared} {env : Env} {a : Stmt} {rest : List Stmt} {Q : Flow → Shared → Prop} (h₀ : Heap) (L : Addr) (s₀ : Shared) (P C : Addr) (o1 o2 o3 : Obj) (b : Int) (fs : (Str → Option Value) → List (Addr × Obj) → Option Value → Prop)
    (h1 : ∀ Md : Shared → Prop, (∀ s', LawC h₀ L s₀ P C o1 o2 o3 b fs s' → Md s') → wpAny M A (exec a env) (fun f s' => match f with | .next => Md s' | f => Q f s') E s)
    (h2 : ∀ (h : Heap) (tk : Nat) (m : Str → Option Value) (st pl : Int) (t1 t2 : Tok) (cv : List Value) (ns : List Int) (n nC : Nat) (o4 : Obj) (ft : Option Value) (own : List (Addr × Obj)), Fr h₀ L h m → News h₀ L h (potL P C st pl t1 t2 cv n nC (cells4 L o1 o2 o3 o4 own)) → IntsAre cv ns → ns.length ≤ 100 → 0 ≤ pl → pl ≤ b →
      Off2 P C (cells4 L o1 o2 o3 o4 own) → OwnOff own [L + 1, L + 1 + 1, L + 1 + 1 + 1, L + 1 + 1 + 1 + 1] → o4.data = .cell ft → fs m own ft → wpAny M A (execs rest env) Q E { s₀ with heap := h, toks := tk }) :
    wpAny M A (execs (a :: rest) env) Q E s :=
  execs_mid (LawC h₀ L s₀ P C o1 o2 o3 b fs) (h1 _ fun _ h => h) fun _ x => by
    cases x with
    | mk h tk m st pl t1 t2 cv ns n nC o4 ft own e F N hi hl hp0 hp1 off oo d4 hf => exact e ▸ h2 h tk m st pl t1 t2 cv ns n nC o4 ft own F N hi hl hp0 hp1 off oo d4 hf
theorem kk_of {h₀ h : Heap} {P C L : Addr} {st pl : Int} {t1 t2 : Tok} {cv : List Value} {n nC : Nat} {o1 o2 o3 o4 : Obj} {own own8 ps : List (Addr × Obj)} (_N : News h₀ L h (potL P C st pl t1 t2 cv n nC (cells4 L o1 o2 o3 o4 (ps ++ own8)))) (k : ∀ p ∈ own, p ∈ own8) : ∀ p ∈ own, p ∈ ps ++ own8 := fun p h => List.mem_append_right _ (k p h)
theorem pot_adr {P C : Addr} {st pl st' pl' : Int} {t1 t2 t1' t2' : Tok} {cv cv' : List Value} {n nC n' nC' : Nat} {own : List (Addr × Obj)} {p : Addr × Obj} (h : p ∈ potL P C st' pl' t1' t2' cv' n' nC' own) : ∃ q ∈ potL P C st pl t1 t2 cv n nC own, q.1 = p.1 := by
  rcases List.mem_cons.mp h with rfl | h
  · exact ⟨(P, W.listOf #[.ref C, .int st t1, .int pl t2] n), .head _, rfl⟩
  · rcases List.mem_cons.mp h with rfl | h
    · exact ⟨(C, W.listOf cv.toArray nC), .tail _ (.head _), rfl⟩
    · exact ⟨p, .tail _ (.tail _ h), rfl⟩
theorem off3_pot {I J K P C : Addr} {st pl st' pl' : Int} {t1 t2 t1' t2' : Tok} {cv cv' : List Value} {n nC n' nC' : Nat} {own : List (Addr × Obj)} (h : LCg.Off3 I J K (potL P C st pl t1 t2 cv n nC own)) : LCg.Off3 I J K (potL P C st' pl' t1' t2' cv' n' nC' own) :=
  LCg.Off3.of fun p hp => by
    obtain ⟨q, hq, e⟩ := pot_adr (st := st) (pl := pl) (t1 := t1) (t2 := t2) (cv := cv) (n := n) (nC := nC) hp
    rw [← e]
    exact h.mem q hq
theorem news_rot3 {h₀ h : Heap} {L P C : Addr} {st pl : Int} {t1 t2 : Tok} {cv : List Value} {n nC : Nat} {own : List (Addr × Obj)} {x y z : Addr × Obj} (N : News h₀ L h (x :: y :: z :: potL P C st pl t1 t2 cv n nC own)) : News h₀ L h (potL P C st pl t1 t2 cv n nC (x :: y :: z :: own)) :=
  news_rot fun p hp => by
    rcases List.mem_cons.mp hp with rfl | hp
    · exact N _ (.head _)
    · refine N p (.tail _ ?_)
      rcases List.mem_cons.mp (pot_rot hp) with rfl | hp
      · exact .head _
      · exact .tail _ (pot_rot hp)
theorem pot_tor3 {P C : Addr} {st pl : Int} {t1 t2 : Tok} {cv : List Value} {n nC : Nat} {own : List (Addr × Obj)} {x y z p : Addr × Obj} (h : p ∈ x :: y :: z :: potL P C st pl t1 t2 cv n nC own) : p ∈ potL P C st pl t1 t2 cv n nC (x :: y :: z :: own) := by
  refine pot_tor ?_
  rcases List.mem_cons.mp h with rfl | h
  · exact .head _
  · refine .tail _ (pot_tor ?_)
    rcases List.mem_cons.mp h with rfl | h
    · exact .head _
    · exact .tail _ (pot_tor h)
theorem off2_cons3 {P C I J K : Addr} {own pl : List (Addr × Obj)} {oI oJ oK : Obj} (h : Off2 P C own) (k : LCg.Off3 I J K pl) {oP oC : Obj} (hP : (P, oP) ∈ pl) (hC : (C, oC) ∈ pl) : Off2 P C ((I, oI) :: (J, oJ) :: (K, oK) :: own) :=
  have a := k.mem _ hP
  have b := k.mem _ hC
  off2_cons (off2_cons (off2_cons h (fun e => a.2.2 e.symm) (fun e => b.2.2 e.symm)) (fun e => a.2.1 e.symm) (fun e => b.2.1 e.symm)) (fun e => a.1 e.symm) (fun e => b.1 e.symm)
theorem news_splitC {h₀ h : Heap} {P C L : Addr} {st pl : Int} {t1 t2 : Tok} {cv : List Value} {n nC : Nat} {o1 o2 o3 o4 : Obj} {own : List (Addr × Obj)} (ps : List (Addr × Obj)) (N : News h₀ L h (ps ++ potL P C st pl t1 t2 cv n nC (cells4 L o1 o2 o3 o4 own)))
    (off : Off2 P C (cells4 L o1 o2 o3 o4 own)) (oo : OwnOff own [L + 1, L + 1 + 1, L + 1 + 1 + 1, L + 1 + 1 + 1 + 1]) (k : ∀ q ∈ ps, ∀ p ∈ potL P C st pl t1 t2 cv n nC (cells4 L o1 o2 o3 o4 own), p.1 < q.1) :
    News h₀ L h (potL P C st pl t1 t2 cv n nC (cells4 L o1 o2 o3 o4 (ps ++ own))) ∧ Off2 P C (cells4 L o1 o2 o3 o4 (ps ++ own)) ∧ OwnOff (ps ++ own) [L + 1, L + 1 + 1, L + 1 + 1 + 1, L + 1 + 1 + 1 + 1] :=
  news_split ps N off oo fun q hq => ⟨k q hq (P, W.listOf #[.ref C, .int st t1, .int pl t2] n) (.head _), k q hq (C, W.listOf cv.toArray nC) (.tail _ (.head _)), k q hq (L + 1 + 1 + 1 + 1, o4) (.tail _ (.tail _ (.head _)))⟩
theorem cell_split {h₀ h : Heap} {P C L : Addr} {st pl : Int} {t1 t2 : Tok} {cv : List Value} {n nC : Nat} {o1 o2 o3 o4 : Obj} {own : List (Addr × Obj)} (N : News h₀ L h (potL P C st pl t1 t2 cv n nC (cells4 L o1 o2 o3 o4 own))) (off : Off2 P C (cells4 L o1 o2 o3 o4 own)) (oo : OwnOff own [L + 1, L + 1 + 1, L + 1 + 1 + 1, L + 1 + 1 + 1 + 1]) :
    ∃ nw0, News h₀ L h ((L + 1 + 1 + 1 + 1, o4) :: nw0) ∧ (∀ p ∈ nw0, p.1 ≠ L + 1 + 1 + 1 + 1) ∧ (∀ p ∈ own, p ∈ nw0) ∧ ∀ o p, p ∈ potL P C st pl t1 t2 cv n nC (cells4 L o1 o2 o3 o own) → p ∈ (L + 1 + 1 + 1 + 1, o) :: nw0 := by
  refine ⟨(P, W.listOf #[.ref C, .int st t1, .int pl t2] n) :: (C, W.listOf cv.toArray nC) :: (L + 1 + 1 + 1, o3) :: (L + 1 + 1, o2) :: (L + 1, o1) :: own, ?_, ?_, fun p h => .tail _ (.tail _ (.tail _ (.tail _ (.tail _ h)))), ?_⟩
  · intro p hp
    refine N p ?_
    simp only [List.mem_cons] at hp ⊢
    rcases hp with h | h | h | h | h | h | h
    · exact .inr (.inr (.inl h))
    · exact .inl h
    · exact .inr (.inl h)
    · exact .inr (.inr (.inr (.inl h)))
    · exact .inr (.inr (.inr (.inr (.inl h))))
    · exact .inr (.inr (.inr (.inr (.inr (.inl h)))))
    · exact .inr (.inr (.inr (.inr (.inr (.inr h)))))
  · have z := off.2 (L + 1 + 1 + 1 + 1, o4) (.head _)
    intro p hp
    simp only [List.mem_cons] at hp
    rcases hp with rfl | rfl | rfl | rfl | rfl | hp
    · exact fun e => z.1 e.symm
    · exact fun e => z.2 e.symm
    · exact Nat.ne_of_lt (Nat.lt_succ_self _)
    · exact Nat.ne_of_lt (Nat.lt_succ_of_lt (Nat.lt_succ_self _))
    · exact Nat.ne_of_lt (Nat.lt_succ_of_lt (Nat.lt_succ_of_lt (Nat.lt_succ_self _)))
    · exact oo p hp _ (.tail _ (.tail _ (.tail _ (.head _))))
  · intro o p hp
    simp only [List.mem_cons] at hp ⊢
    rcases hp with h | h | h | h | h | h | h
    · exact .inr (.inl h)
    · exact .inr (.inr (.inl h))
    · exact .inl h
    · exact .inr (.inr (.inr (.inl h)))
    · exact .inr (.inr (.inr (.inr (.inl h))))
    · exact .inr (.inr (.inr (.inr (.inr (.inl h)))))
    · exact .inr (.inr (.inr (.inr (.inr (.inr h)))))
theorem cell_back {P C L : Addr} {st pl : Int} {t1 t2 : Tok} {cv : List Value} {n nC : Nat} {o1 o2 o3 o : Obj} {own nw0 ps : List (Addr × Obj)} {p : Addr × Obj} (hback : ∀ o p, p ∈ potL P C st pl t1 t2 cv n nC (cells4 L o1 o2 o3 o own) → p ∈ (L + 1 + 1 + 1 + 1, o) :: nw0)
    (h : p ∈ ps ++ potL P C st pl t1 t2 cv n nC (cells4 L o1 o2 o3 o own)) : p ∈ ps ++ ((L + 1 + 1 + 1 + 1, o) :: nw0) := by
  rcases List.mem_append.mp h with h | h
  · exact List.mem_append_left _ h
  · exact List.mem_append_right _ (hback o p h)
theorem lt_swap {a d : Addr} {o o' : Obj} {nw0 : List (Addr × Obj)} (h : ∀ q ∈ (a, o) :: nw0, q.1 < d) : ∀ q ∈ (a, o') :: nw0, q.1 < d := by
  intro q hq
  rcases List.mem_cons.mp hq with rfl | hq
  · exact h (a, o) (.head _)
  · exact h q (.tail _ hq)
theorem lt_cons {a d : Addr} {o : Obj} {nw0 : List (Addr × Obj)} (h : @LT.lt Nat _ a d ∧ AllLt d nw0) : ∀ q ∈ (a, o) :: nw0, q.1 < d := by
  intro q hq
  rcases List.mem_cons.mp hq with rfl | hq
  · exact h.1
  · exact ktn_ltOf h.2 q hq
/-- the stores' loop between two turns -/
inductive StoreJ (L P C : Addr) (o1 o2 o3 o4 : Obj) (pl : Int) (nts : List Addr) (R : Addr) (own0 : List (Addr × Obj)) (wd : Bool) (i : Nat) (m : Str → Option Value) (nw : List (Addr × Obj)) : Prop
  | mk (st' : Int) (t1' t2' : Tok) (cv' : List Value) (ns' : List Int) (n' nC' : Nat) (cs' : List Nat) (nR' : Nat) (e : nw = potL P C st' (pl + (i : Int)) t1' t2' cv' n' nC' (cells4 L o1 o2 o3 o4 ((R, rowsO nts cs' nR') :: own0))) (hi' : IntsAre cv' ns') (hl' : ns'.length ≤ 100) (hcs' : CodesOk cs') (e1 : m (Str.ofString "is_wide") = some (.bool wd)) (e2 : m (Str.ofString "rows") = some (.ref R))
/-- the map's loop between two turns -/
inductive MapJ (w : World) (L P C : Addr) (o1 o2 o3 o4 : Obj) (pl : Int) (NL R : Addr) (nts : List Addr) (cs : List Nat) (nR : Nat) (wd : Bool) (CH : Addr) (i : Nat) (m : Str → Option Value) (nw : List (Addr × Obj)) : Prop
  | mk (st' : Int) (t1' t2' : Tok) (cv' : List Value) (ns' : List Int) (n' nC' : Nat) (own' : List (Addr × Obj)) (D : List (PyData × PyData)) (e : nw = potL P C st' (pl + 1 + 3 * (i : Int)) t1' t2' cv' n' nC' (cells4 L o1 o2 o3 o4 own')) (hi' : IntsAre cv' ns') (hl' : ns'.length ≤ 100) (off' : Off2 P C (cells4 L o1 o2 o3 o4 own')) (oo' : OwnOff own' [L + 1, L + 1 + 1, L + 1 + 1 + 1, L + 1 + 1 + 1 + 1])
    (tab' : TupTab (intKind PRG w) PyData.int own' CH D) (hD' : StrD D) (hDl' : D.length ≤ i) (hR' : (R, rowsO nts cs nR) ∈ own') (hN' : NamesAt own' NL nts) (e1 : m (Str.ofString "is_wide") = some (.bool wd)) (e2 : m (Str.ofString "rows") = some (.ref R)) (e3 : m (Str.ofString "chars") = some (.ref CH))
/-- the octets' comprehension between two turns -/
inductive OctJ (L P C : Addr) (o1 o2 o3 o4 : Obj) (pl : Int) (own : List (Addr × Obj)) (i : Nat) (ys : List Value) (nw : List (Addr × Obj)) : Prop
  | mk (st' : Int) (t1' t2' : Tok) (cv' : List Value) (ns' : List Int) (n' nC' : Nat) (ks : List Int) (e : nw = potL P C st' (pl + 1 + (i : Int)) t1' t2' cv' n' nC' (cells4 L o1 o2 o3 o4 own)) (hi' : IntsAre cv' ns') (hl' : ns'.length ≤ 100) (hks : IntsAre ys ks) (hkl : ks.length = i) (hk0 : ∀ o ∈ ks, 0 ≤ o ∧ o.toNat < 256)
/-- what holds behind each of the law's statements -/
inductive St5 (NL R : Addr) (nts : List Addr) (wd : Bool) (m : Str → Option Value) (own : List (Addr × Obj)) : Prop
  | mk (cs : List Nat) (nR : Nat) (hcs : CodesOk cs) (hR : (R, rowsO nts cs nR) ∈ own) (hN : NamesAt own NL nts) (hwd : m (Str.ofString "is_wide") = some (.bool wd)) (hrows : m (Str.ofString "rows") = some (.ref R))
inductive St6 (w : World) (NL R : Addr) (nts : List Addr) (cs : List Nat) (nR : Nat) (wd : Bool) (m : Str → Option Value) (own : List (Addr × Obj)) : Prop
  | mk (CH : Addr) (tab : TupTab (intKind PRG w) PyData.int own CH []) (hR : (R, rowsO nts cs nR) ∈ own) (hN : NamesAt own NL nts) (hwd : m (Str.ofString "is_wide") = some (.bool wd)) (hrows : m (Str.ofString "rows") = some (.ref R)) (hch : m (Str.ofString "chars") = some (.ref CH))
inductive St7 (w : World) (NL R : Addr) (nts : List Addr) (cs : List Nat) (nR : Nat) (wd : Bool) (CH : Addr) (m : Str → Option Value) (own : List (Addr × Obj)) : Prop
  | mk (D : List (PyData × PyData)) (tab : TupTab (intKind PRG w) PyData.int own CH D) (hD : StrD D) (hDl : D.length ≤ 3) (hR : (R, rowsO nts cs nR) ∈ own) (hN : NamesAt own NL nts) (hwd : m (Str.ofString "is_wide") = some (.bool wd)) (hrows : m (Str.ofString "rows") = some (.ref R)) (hch : m (Str.ofString "chars") = some (.ref CH))
inductive St8 (w : World) (NL R : Addr) (nts : List Addr) (cs : List Nat) (nR : Nat) (wd : Bool) (CH : Addr) (D : List (PyData × PyData)) (m : Str → Option Value) (own : List (Addr × Obj)) : Prop
  | mk (hm : Bool) (tab : TupTab (intKind PRG w) PyData.int own CH D) (hR : (R, rowsO nts cs nR) ∈ own) (hN : NamesAt own NL nts) (hwd : m (Str.ofString "is_wide") = some (.bool wd)) (hrows : m (Str.ofString "rows") = some (.ref R)) (hch : m (Str.ofString "chars") = some (.ref CH)) (hhm : m (Str.ofString "has_map") = some (.bool hm))
inductive St9 (w : World) (NL R : Addr) (nts : List Addr) (cs : List Nat) (nR : Nat) (wd : Bool) (CH : Addr) (D : List (PyData × PyData)) (hm : Bool) (m : Str → Option Value) (own : List (Addr × Obj)) : Prop
  | mk (cut : Value) (tab : TupTab (intKind PRG w) PyData.int own CH D) (hR : (R, rowsO nts cs nR) ∈ own) (hN : NamesAt own NL nts) (hcut : CutAt own wd cut) (hwd : m (Str.ofString "is_wide") = some (.bool wd)) (hrows : m (Str.ofString "rows") = some (.ref R)) (hch : m (Str.ofString "chars") = some (.ref CH)) (hhm : m (Str.ofString "has_map") = some (.bool hm)) (hcu : m (Str.ofString "cutting") = some cut)
inductive St10 (w : World) (NL R : Addr) (nts : List Addr) (cs : List Nat) (nR : Nat) (wd : Bool) (CH : Addr) (D : List (PyData × PyData)) (hm : Bool) (m : Str → Option Value) (own : List (Addr × Obj)) (ft : Option Value) : Prop
  | mk (xF : Addr) (hft : ft = some (.ref xF)) (tab : TupTab (intKind PRG w) PyData.int own CH D) (hR : (R, rowsO nts cs nR) ∈ own) (hN : NamesAt own NL nts) (hF : FontAt w own xF wd (if hm then some D else none) (cs.map nmA)) (hwd : m (Str.ofString "is_wide") = some (.bool wd)) (hrows : m (Str.ofString "rows") = some (.ref R)) (hch : m (Str.ofString "chars") = some (.ref CH)) (hhm : m (Str.ofString "has_map") = some (.bool hm))
inductive St11 (w : World) (NL R : Addr) (nts : List Addr) (cs : List Nat) (nR : Nat) (wd : Bool) (CH : Addr) (D : List (PyData × PyData)) (hm : Bool) (xF : Addr) (m : Str → Option Value) (own : List (Addr × Obj)) : Prop
  | mk (b : Array UInt8) (t : Tok) (ks : List Int) (hb : KBw.bInts b = ks) (hkl : ks.length ≤ 6) (hk0 : ∀ o ∈ ks, 0 ≤ o ∧ o.toNat < 256) (tab : TupTab (intKind PRG w) PyData.int own CH D) (hR : (R, rowsO nts cs nR) ∈ own) (hN : NamesAt own NL nts) (hF : FontAt w own xF wd (if hm then some D else none) (cs.map nmA)) (hwd : m (Str.ofString "is_wide") = some (.bool wd)) (hrows : m (Str.ofString "rows") = some (.ref R)) (hch : m (Str.ofString "chars") = some (.ref CH)) (hhm : m (Str.ofString "has_map") = some (.bool hm)) (hoc : m (Str.ofString "octets") = some (.bytes b t))
inductive St12 (w : World) (NL R : Addr) (nts : List Addr) (cs : List Nat) (nR : Nat) (wd : Bool) (CH : Addr) (D : List (PyData × PyData)) (hm : Bool) (xF : Addr) (b : Array UInt8) (tb : Tok) (m : Str → Option Value) (own : List (Addr × Obj)) : Prop
  | mk (DU : Addr) (own0 : List (Addr × Obj)) (kU : Nat) (hown : own = (DU, W.listOf #[] kU) :: own0) (hDU : ∀ p ∈ own0, p.1 ≠ DU) (tab : TupTab (intKind PRG w) PyData.int own0 CH D) (hR : (R, rowsO nts cs nR) ∈ own0) (hN : NamesAt own0 NL nts) (hF : FontAt w own0 xF wd (if hm then some D else none) (cs.map nmA)) (hwd : m (Str.ofString "is_wide") = some (.bool wd)) (hrows : m (Str.ofString "rows") = some (.ref R)) (hch : m (Str.ofString "chars") = some (.ref CH)) (hhm : m (Str.ofString "has_map") = some (.bool hm)) (hoc : m (Str.ofString "octets") = some (.bytes b tb)) (hdu : m (Str.ofString "due") = some (.ref DU))
end Mine
end
section
open PySem PySem.W PyProof.Rows PySem.Spec PyProof.V
namespace Mine
/-- where the law stands when all is drawn -/
inductive LawD (h₀ : Heap) (L : Addr) (s₀ : Shared) (fs : (Str → Option Value) → List (Addr × Obj) → Prop) (s' : Shared) : Prop
  | mk (h : Heap) (tk : Nat) (m : Str → Option Value) (nw : List (Addr × Obj)) (e : s' = { s₀ with heap := h, toks := tk }) (F : Fr h₀ L h m) (N : News h₀ L h nw) (hf : fs m nw)
theorem law_segD {M : Model} {A : Around} {E : Value → Shared → Prop} {s : Shared} {env : Env} {a : Stmt} {rest : List Stmt} {Q : Flow → Shared → Prop} (h₀ : Heap) (L : Addr) (s₀ : Shared) (fs : (Str → Option Value) → List (Addr × Obj) → Prop)
    (h1 : ∀ Md : Shared → Prop, (∀ s', LawD h₀ L s₀ fs s' → Md s') → wpAny M A (exec a env) (fun f s' => match f with | .next => Md s' | f => Q f s') E s)
    (h2 : ∀ (h : Heap) (tk : Nat) (m : Str → Option Value) (nw : List (Addr × Obj)), Fr h₀ L h m → News h₀ L h nw → fs m nw → wpAny M A (execs rest env) Q E { s₀ with heap := h, toks := tk }) :
    wpAny M A (execs (a :: rest) env) Q E s :=
  execs_mid (LawD h₀ L s₀ fs) (h1 _ fun _ h => h) fun _ x => by
    cases x with
    | mk h tk m nw e F N hf => exact e ▸ h2 h tk m nw F N hf
/-- the font's map -/
noncomputable def umOf (hm : Bool) (D : List (PyData × PyData)) : Option (List (PyData × PyData)) := if hm then some D else none
/-- what the end of the law needs of what lies in the ledger -/
structure EndAt (w : World) (L : Addr) (wd hm : Bool) (D : List (PyData × PyData)) (CH R xF NL : Addr) (nts : List Addr) (cs : List Nat) (nR : Nat) (nw : List (Addr × Obj)) : Prop where
  tab : TupTab (intKind PRG w) PyData.int nw CH D
  rows : (R, rowsO nts cs nR) ∈ nw
  names : NamesAt nw NL nts
  font : FontAt w nw xF wd (umOf hm D) (cs.map nmA)
  cell : ∃ o, (L + 1 + 1 + 1 + 1, o) ∈ nw ∧ o.data = .cell (some (.ref xF))
theorem EndAt.mono {w : World} {L : Addr} {wd hm : Bool} {D : List (PyData × PyData)} {CH R xF NL : Addr} {nts : List Addr} {cs : List Nat} {nR : Nat} {nw nw' : List (Addr × Obj)} (x : EndAt w L wd hm D CH R xF NL nts cs nR nw) (k : ∀ p ∈ nw, p ∈ nw') : EndAt w L wd hm D CH R xF NL nts cs nR nw' :=
  ⟨tab_mono k x.tab, k _ x.rows, x.names.mono k, x.font.mono k, let ⟨o, a, b⟩ := x.cell; ⟨o, k _ a, b⟩⟩
theorem end_split {h₀ h : Heap} {P C L DU : Addr} {st pl : Int} {t1 t2 : Tok} {cv : List Value} {n nC : Nat} {o1 o2 o3 o4 oU : Obj} {own0 : List (Addr × Obj)} (N : News h₀ L h (potL P C st pl t1 t2 cv n nC (cells4 L o1 o2 o3 o4 ((DU, oU) :: own0)))) (off : Off2 P C (cells4 L o1 o2 o3 o4 ((DU, oU) :: own0))) (oo : OwnOff ((DU, oU) :: own0) [L + 1, L + 1 + 1, L + 1 + 1 + 1, L + 1 + 1 + 1 + 1]) (hD : ∀ p ∈ own0, p.1 ≠ DU) :
    ∃ nw0, News h₀ L h ((DU, oU) :: nw0) ∧ (∀ p ∈ nw0, p.1 ≠ DU) ∧ (∀ p ∈ own0, p ∈ nw0) ∧ (L + 1 + 1 + 1 + 1, o4) ∈ nw0 := by
  refine ⟨potL P C st pl t1 t2 cv n nC (cells4 L o1 o2 o3 o4 own0), ?_, ?_, fun p h => .tail _ (.tail _ (.tail _ (.tail _ (.tail _ (.tail _ h))))), .tail _ (.tail _ (.head _))⟩
  · intro p hp
    refine N p ?_
    simp only [List.mem_cons] at hp ⊢
    rcases hp with h | h | h | h | h | h | h | h
    · exact .inr (.inr (.inr (.inr (.inr (.inr (.inl h))))))
    · exact .inl h
    · exact .inr (.inl h)
    · exact .inr (.inr (.inl h))
    · exact .inr (.inr (.inr (.inl h)))
    · exact .inr (.inr (.inr (.inr (.inl h))))
    · exact .inr (.inr (.inr (.inr (.inr (.inl h)))))
    · exact .inr (.inr (.inr (.inr (.inr (.inr (.inr h))))))
  · have z := off.2 (DU, oU) (.tail _ (.tail _ (.tail _ (.tail _ (.head _)))))
    have y := oo (DU, oU) (.head _)
    intro p hp
    simp only [List.mem_cons] at hp
    rcases hp with rfl | rfl | rfl | rfl | rfl | rfl | hp
    · exact fun e => z.1 e.symm
    · exact fun e => z.2 e.symm
    · exact fun e => y _ (.tail _ (.tail _ (.tail _ (.head _)))) e.symm
    · exact fun e => y _ (.tail _ (.tail _ (.head _))) e.symm
    · exact fun e => y _ (.tail _ (.head _)) e.symm
    · exact fun e => y _ (.head _) e.symm
    · exact hD p hp
/-- the law between two turns of its own reckoning -/
inductive DueJ (L : Addr) (wd hm : Bool) (D : List (PyData × PyData)) (CH R DU : Addr) (cs : List Nat) (b : Array UInt8) (tb : Tok) (ks : List Int) (nw0 : List (Addr × Obj)) (i : Nat) (m : Str → Option Value) (nw : List (Addr × Obj)) : Prop
  | mk (vs : List Value) (kU : Nat) (e : nw = (DU, W.listOf vs.toArray kU) :: nw0) (hvs : StrsAre vs ((ks.take i).map (dueT wd (umOf hm D) cs))) (e1 : m (Str.ofString "is_wide") = some (.bool wd)) (e2 : m (Str.ofString "rows") = some (.ref R)) (e3 : m (Str.ofString "chars") = some (.ref CH)) (e4 : m (Str.ofString "has_map") = some (.bool hm)) (e5 : m (Str.ofString "octets") = some (.bytes b tb)) (e6 : m (Str.ofString "due") = some (.ref DU))
theorem due_snoc {wd hm : Bool} {D : List (PyData × PyData)} {cs : List Nat} {ks : List Int} {i : Nat} {o : Int} {vs : List Value} {z : Str} {t : Tok} (h : StrsAre vs ((ks.take i).map (dueT wd (umOf hm D) cs))) (ho : ks[i]? = some o) (e : dueT wd (umOf hm D) cs o = z) : StrsAre (vs ++ [.str z t]) ((ks.take (i + 1)).map (dueT wd (umOf hm D) cs)) := by
  have htk : ks.take (i + 1) = ks.take i ++ [o] := by rw [List.take_add_one, ho]; rfl
  rw [htk, List.map_append, List.map_singleton, e]
  exact strs_snoc h
theorem due_no {wd : Bool} {D : List (PyData × PyData)} {cs : List Nat} {o : Int} : dueT wd (umOf false D) cs o = if wd then Str.ofString "" else txA (cs.getD o.toNat 0) := rfl
theorem due_none {wd : Bool} {D : List (PyData × PyData)} {cs : List Nat} {o : Int} (h : lookup (mapK o) D = none) : dueT wd (umOf true D) cs o = if wd then Str.ofString "" else txA (cs.getD o.toNat 0) := by
  show strOf (lookup (mapK o) D) _ = _
  rw [h]; rfl
theorem due_some {wd : Bool} {D : List (PyData × PyData)} {cs : List Nat} {o : Int} {z : Str} (h : lookup (mapK o) D = some (.str z)) : dueT wd (umOf true D) cs o = z := by
  show strOf (lookup (mapK o) D) _ = _
  rw [h]; rfl
theorem code_some {cs : List Nat} (hc : CodesOk cs) {o : Int} (h : o.toNat < 256) : ∃ k, cs[o.toNat]? = some k ∧ cs.getD o.toNat 0 = k := by
  have hl : o.toNat < cs.length := by rw [hc.1]; exact h
  exact ⟨cs[o.toNat], by simp [hl], by simp [hl]⟩
section
variable {prog : Program} {w : World} {A : Around} {E : Value → Shared → Prop} {s : Shared} {h₀ : Heap} {L : Addr} {m : Str → Option Value}
theorem due_append {I DU : Addr} {oI : Obj} {vs : List Value} {n : Nat} {x : Value} {nw0 : List (Addr × Obj)} {Q : Value → Shared → Prop} (F : Fr h₀ L s.heap m) (N : News h₀ L s.heap ((I, oI) :: (DU, W.listOf vs.toArray n) :: nw0)) (hID : I ≠ DU) (hnw : ∀ p ∈ nw0, p.1 ≠ DU) (hl : vs.length ≤ 1000)
    (h : ∀ h', Fr h₀ L h' m → News h₀ L h' ((I, oI) :: (DU, W.listOf (vs ++ [x]).toArray (n + 1)) :: nw0) → Q .none { s with heap := h' }) : wpAny (model prog w) A (call (.builtin "list.append") [.ref DU, x]) Q E s :=
  append_K F N (.tail hID (.head hnw)) (fun h' F' N' => h h' F' (by simpa using N')) (by rw [List.size_toArray, sizeLine_eq]; omega)
theorem tup_at {value slice : PySem.Expr} {t : Addr} {x y : Str} {a b u : Tok} {n : Nat} {news : List (Addr × Obj)} {Q : Value → Shared → Prop} (N : News h₀ L s.heap news) (hm : (t, tupO [.str x a, .str y b] n) ∈ news) (h : Q (.str y b) s)
    (hs : subscripted slice false (.ref t) (.int 1 u) = operate [.ref t, .int 1 u] (getItem (.ref t) (.int 1 u)) := by with_unfolding_all rfl) : wpAny (model prog w) A (subscriptTail value slice (.ref t) (.int 1 u)) Q E s :=
  item_tupleT (l := [.str x a, .str y b]) (j := 1) ⟨_, (N _ hm).1, rfl, _, rfl⟩ (by decide) (by decide) rfl rfl h hs
end
theorem carried_strs : ∀ {vs : List Value} {ss : List Str}, StrsAre vs ss → CarriedAll vs (ss.map PyData.str)
  | _, _, .nil => .nil
  | _, _, .cons _ _ r => .cons (.str _ _) (carried_strs r)
theorem canLay_strs {ss : List Str} (h : ∀ x ∈ ss, PyData.canLay0 (.str x) = true) : PyData.canLayAll0 (ss.map PyData.str) = true := by
  induction ss with
  | nil => rfl
  | cons x r ih =>
    simp only [List.map_cons, PyData.canLayAll0, Bool.and_eq_true]
    exact ⟨h x (.head _), ih fun y hy => h y (.tail _ hy)⟩
theorem depth_strs : ∀ ss : List Str, PyData.depthAll (ss.map PyData.str) = 0
  | [] => rfl
  | _ :: r => by simp [PyData.depthAll, PyData.depth, depth_strs r]
theorem shaped_strs {ss : List Str} (h : ∀ x ∈ ss, PyData.canLay0 (.str x) = true) : SeqAt.shaped (.list (ss.map PyData.str)) = true := by
  have h1 := canLay_strs h
  simp [SeqAt.shaped, PyData.canLay0, PyData.depth, h1, depth_strs]
section
variable {prog : Program} {w : World} {A : Around} {E : Value → Shared → Prop} {s : Shared}
theorem ne_strs {a b : Addr} {vs us : List Value} {ss : List Str} {Q : Value → Shared → Prop} (ha : s.heap.IsList a vs.toArray) (hb : s.heap.IsList b us.toArray) (hi : StrsAre vs ss) (hj : StrsAre us ss) (hok : ∀ x ∈ ss, PyData.canLay0 (.str x) = true) (hu : A.units + 64 < cLine)
    (h : Q (.bool false) s) : wpAny (model prog w) A (compareOp .NotEq (.ref a) (.ref b)) Q E s :=
  ne_dataH (reads_newData ha (carried_strs hi)) (reads_newData hb (carried_strs hj)) (shaped_strs hok) (shaped_strs hok) hu (by
    rw [SeqAt.eqv_refl _ (by simp only [PyData.canLay0]; exact canLay_strs hok)]; exact h)
end
theorem due_ok {wd hm : Bool} {D : List (PyData × PyData)} {cs : List Nat} (hD : StrD D) (hc : CodesOk cs) {o : Int} (h1 : o.toNat < 256) : PyData.canLay0 (.str (dueT wd (umOf hm D) cs o)) = true := by
  have hbase : PyData.canLay0 (.str (if wd then Str.ofString "" else txA (cs.getD o.toNat 0))) = true := by
    cases wd with
    | true => show PyData.canLay0 (.str (Str.ofString "")) = true; decide +kernel
    | false =>
      obtain ⟨k, hk, _, hy, _⟩ := nm_at hc h1
      show PyData.canLay0 (.str (txA (cs.getD o.toNat 0))) = true
      rw [hk]
      have hk9 : k < 9 := (List.getElem?_eq_some_iff.mp hy).1
      match k, hk9 with
      | 0, _ | 1, _ | 2, _ | 3, _ | 4, _ | 5, _ | 6, _ | 7, _ | 8, _ => decide +kernel
  cases hm with
  | false => exact hbase
  | true =>
    cases hl : lookup (mapK o) D with
    | none => rw [due_none hl]; exact hbase
    | some v =>
      obtain ⟨q, hq, rfl⟩ := lookup_mem hl
      obtain ⟨z, hqz, hz⟩ := hD q hq
      rw [hqz] at hl
      rw [due_some hl]
      exact hz.2
theorem text_use {w : World} {xF pr : Addr} {o : Int} {wide : Bool} {um : Option (List (PyData × PyData))} {cs : List Nat} {a t : Tok} {n : Nat} {mean : ExcName → Option Value} {mg mb : Str → Option Value} {A : Around} {env : Env} {outer : List Env} {A₀ : Around} {base h₀ : Heap} {L : Addr} {m : Str → Option Value} {news : List (Addr × Obj)} {s : Shared} {Q E : Value → Shared → Prop}
    (B : Below A₀ base outer h₀) (F : Fr h₀ L s.heap m) (N : News h₀ L s.heap news) (X : Frag.In (Mine.K w.params) h₀) (T : Top hd.view_39 (looseW hd.view_39 [Str.ofString "OTHER_CODES"]) mean mg mb h₀)
    (hm : StrMap um) (hc : CodesOk cs) (h0 : 0 ≤ o) (h1 : o.toNat < 256) (hF : FontAt w news xF wide um (cs.map nmA)) (hp : (pr, tupO [.int 1 a, .int o t] n) ∈ news)
    (hh : A.handled = none) (hA : A.frames = some (env :: outer)) (hf : env.frame = some L) (hk : env.scope.kind = .function) (hd : A.depth + 40 < recursionLimit) (hu : A.units + 320 < cLine)
    (ret : ∀ t' h' tk', Fr h₀ L h' m → News h₀ L h' news → Q (.str (dueT wide um cs o) t') { s with heap := h', toks := tk' }) :
    wpAny (model Mine.rw.row.prog w) A (call (.ref 158) [.ref xF, .ref pr]) Q E s :=
  (text_c w xF pr o wide um cs a t n hm hc h0 h1).use B F N ⟨hF, hp⟩ X T hh hA hf hk hd hu fun r h' tk' F' N' _ ⟨t', e⟩ => e ▸ ret t' h' tk' F' N'
theorem stext_use {w : World} {xF : Addr} {t : Tok} {b : Array UInt8} {ks : List Int} {wide : Bool} {um : Option (List (PyData × PyData))} {cs : List Nat} {mean : ExcName → Option Value} {mg mb : Str → Option Value} {A : Around} {env : Env} {outer : List Env} {A₀ : Around} {base h₀ : Heap} {L : Addr} {m : Str → Option Value} {news : List (Addr × Obj)} {s : Shared} {Q E : Value → Shared → Prop}
    (B : Below A₀ base outer h₀) (F : Fr h₀ L s.heap m) (N : News h₀ L s.heap news) (X : Frag.In (Mine.K w.params) h₀) (T : Top hd.view_39 (looseW hd.view_39 [Str.ofString "OTHER_CODES"]) mean mg mb h₀)
    (hb : KBw.bInts b = ks) (hks : ks.length ≤ 100) (hk0 : ∀ o ∈ ks, 0 ≤ o ∧ o.toNat < 256) (hm : StrMap um) (hc : CodesOk cs) (hF : FontAt w news xF wide um (cs.map nmA))
    (hh : A.handled = none) (hA : A.frames = some (env :: outer)) (hf : env.frame = some L) (hk : env.scope.kind = .function) (hd : A.depth + 64 < recursionLimit) (hu : A.units + 512 < cLine)
    (ret : ∀ t' h' tk', Fr h₀ L h' m → News h₀ L h' news → Q (.str (Txt.join (Str.ofString "") (ks.map (dueT wide um cs))) t') { s with heap := h', toks := tk' }) :
    wpAny (model Mine.rw.row.prog w) A (call (.ref 170) [.ref xF, .bytes b t]) Q E s :=
  (stext_c w xF t b ks hb hks hk0 wide um cs hm hc).use B F N hF X T hh hA hf hk hd hu fun r h' tk' F' N' _ ⟨t', e⟩ => e ▸ ret t' h' tk' F' N'
theorem news_dup {h₀ h : Heap} {L : Addr} {x : Addr × Obj} {nw : List (Addr × Obj)} (N : News h₀ L h nw) (hx : x ∈ nw) : News h₀ L h (x :: nw) := fun p hp => by
  rcases List.mem_cons.mp hp with rfl | hp
  · exact N _ hx
  · exact N p hp
theorem StrD.mapU {D : List (PyData × PyData)} (h : StrD D) (hm : Bool) : StrMap (umOf hm D) := h.map hm
theorem eq_str_of {prog : Program} {w : World} {A : Around} {E : Value → Shared → Prop} {s : Shared} {x y : Str} {t u : Tok} {Q : Value → Shared → Prop} (e : x = y) (h : Q (.bool true) s) : wpAny (model prog w) A (compareOp .Eq (.str x t) (.str y u)) Q E s :=
  eq_str (by subst e; rw [beq_self_eq_true]; exact h)
theorem join_flat : ∀ ss : List Str, (Txt.join (Str.ofString "") ss).cps.toList = (ss.map fun x => x.cps.toList).flatten
  | [] => rfl
  | [x] => by
    show x.cps.toList = _
    simp
  | x :: y :: r => by
    have ih := join_flat (y :: r)
    have e : Txt.join (Str.ofString "") (x :: y :: r) = x ++ Str.ofString "" ++ Txt.join (Str.ofString "") (y :: r) := by
      unfold Txt.join
      rw [StrLaws.glued_eq_join, StrLaws.glued_eq_join]
      rfl
    rw [e]
    have he : (Str.ofString "").cps.toList = [] := by decide
    rw [Str.cps_append, Str.cps_append, Array.toList_append, Array.toList_append, ih, he]
    simp
theorem join_cut (ss : List Str) (k : Nat) : Txt.join (Str.ofString "") (ss.take k) ++ Txt.join (Str.ofString "") (ss.drop k) = Txt.join (Str.ofString "") ss := by
  refine Str.ext' ?_
  apply Array.toList_inj.mp
  rw [Str.cps_append, Array.toList_append, join_flat, join_flat, join_flat, ← List.flatten_append, ← List.map_append, List.take_append_drop]
theorem join_len {ss : List Str} (h : ∀ x ∈ ss, x.length ≤ 4) : (Txt.join (Str.ofString "") ss).length ≤ 4 * ss.length := by
  have h1 : (Txt.join (Str.ofString "") ss).length = (Txt.join (Str.ofString "") ss).cps.toList.length := by simp [Str.length]
  rw [h1, join_flat]
  clear h1
  induction ss with
  | nil => simp
  | cons x r ih =>
    have a := ih fun y hy => h y (.tail _ hy)
    have b : x.cps.toList.length ≤ 4 := by simpa [Str.length] using h x (.head _)
    simp only [List.map_cons, List.flatten_cons, List.length_append, List.length_cons]
    omega
theorem add_str_of {prog : Program} {w : World} {A : Around} {E : Value → Shared → Prop} {s : Shared} {x y z : Str} {t u : Tok} {Q : Value → Shared → Prop} (e : x ++ y = z) (hsz : x.length + y.length ≤ sizeLine) (h : ∀ t' tk, Q (.str z t') { s with toks := tk }) : wpAny (model prog w) A (binaryOp .Add (.str x t) (.str y u)) Q E s :=
  add_str (fun t' tk => by rw [e]; exact h t' tk) hsz
inductive St13 (w : World) (L : Addr) (wd hm : Bool) (D : List (PyData × PyData)) (CH R xF NL : Addr) (nts : List Addr) (cs : List Nat) (nR : Nat) (b : Array UInt8) (tb : Tok) (ks : List Int) (DU : Addr) (m : Str → Option Value) (nw : List (Addr × Obj)) : Prop
  | mk (vs : List Value) (kU : Nat) (hvs : StrsAre vs (ks.map (dueT wd (umOf hm D) cs))) (hdm : (DU, W.listOf vs.toArray kU) ∈ nw) (hE : EndAt w L wd hm D CH R xF NL nts cs nR nw) (hoc : m (Str.ofString "octets") = some (.bytes b tb)) (hdu : m (Str.ofString "due") = some (.ref DU))
inductive St14 (w : World) (L : Addr) (wd hm : Bool) (D : List (PyData × PyData)) (CH R xF NL : Addr) (nts : List Addr) (cs : List Nat) (nR : Nat) (b : Array UInt8) (tb : Tok) (DU : Addr) (vs : List Value) (kU : Nat) (m : Str → Option Value) (nw : List (Addr × Obj)) : Prop
  | mk (hdm : (DU, W.listOf vs.toArray kU) ∈ nw) (hE : EndAt w L wd hm D CH R xF NL nts cs nR nw) (hoc : m (Str.ofString "octets") = some (.bytes b tb)) (hdu : m (Str.ofString "due") = some (.ref DU))
end Mine
end
section
open PySem PySem.W PyProof.Rows PySem.Spec PyProof.V
namespace Mine
set_option maxHeartbeats 400000 in
theorem post_true (a : List WData) : Mine.rw.row.claim.post a (.bool true) a = true := by
  wrow_post
end Mine
end
section
open PySem PySem.W PyProof.Rows PySem.Spec PyProof.V
open Mine
local macro_rules | `(tactic| k_mem) => `(tactic| ((show @Membership.mem (Addr × Obj) (List (Addr × Obj)) _ _ _); ktr_member))
set_option maxRecDepth 100000 in
set_option maxHeartbeats 8000000 in
theorem Mine.law_holds : Mine.rw.Holds := hd (by
  k_go0
  (all_goals try k_fold)
  with_reducible rename Shared => S1
  with_reducible rename World => WW
  (try dsimp only)
  with_reducible refine execs_mid2V (LawAt S1.heap S1.heap.objs.size S1 0 none St1) ?_ ?_
  · intro Md hMd
    repeat' ((fail_if_success (with_reducible show wpAny _ _ (spliced _) _ _ _)); walk_at "one step")
    with_reducible refine' pair_item ?b1 ?b2 ?b3 ?_
    case b1 => k_asm
    case b2 => k_asm
    case b3 => k_asm
    intro T1 tt1 tu1 tn1 th1 tk1 FT1 NT1 lT1
    have bT1 : @LT.lt Nat _ (S1.heap.objs.size + 1 + 1 + 1 + 1) T1 := lT1 (_, _) (.head _)
    clear lT1
    with_reducible refine' pair_item ?b1 ?b2 ?b3 ?_
    case b1 => k_asm
    case b2 => k_asm
    case b3 => k_asm
    intro T2 tt2 tu2 tn2 th2 tk2 FT2 NT2 lT2
    have bT2 : @LT.lt Nat _ (S1.heap.objs.size + 1 + 1 + 1 + 1) T2 := lT2 (_, _) (.tail _ (.head _))
    clear lT2
    clear FT1 NT1
    with_reducible refine' pair_item ?b1 ?b2 ?b3 ?_
    case b1 => k_asm
    case b2 => k_asm
    case b3 => k_asm
    intro T3 tt3 tu3 tn3 th3 tk3 FT3 NT3 lT3
    have bT3 : @LT.lt Nat _ (S1.heap.objs.size + 1 + 1 + 1 + 1) T3 := lT3 (_, _) (.tail _ (.tail _ (.head _)))
    clear lT3
    clear FT2 NT2
    with_reducible refine' pair_item ?b1 ?b2 ?b3 ?_
    case b1 => k_asm
    case b2 => k_asm
    case b3 => k_asm
    intro T4 tt4 tu4 tn4 th4 tk4 FT4 NT4 lT4
    have bT4 : @LT.lt Nat _ (S1.heap.objs.size + 1 + 1 + 1 + 1) T4 := lT4 (_, _) (.tail _ (.tail _ (.tail _ (.head _))))
    clear lT4
    clear FT3 NT3
    with_reducible refine' pair_item ?b1 ?b2 ?b3 ?_
    case b1 => k_asm
    case b2 => k_asm
    case b3 => k_asm
    intro T5 tt5 tu5 tn5 th5 tk5 FT5 NT5 lT5
    have bT5 : @LT.lt Nat _ (S1.heap.objs.size + 1 + 1 + 1 + 1) T5 := lT5 (_, _) (.tail _ (.tail _ (.tail _ (.tail _ (.head _)))))
    clear lT5
    clear FT4 NT4
    with_reducible refine' pair_item ?b1 ?b2 ?b3 ?_
    case b1 => k_asm
    case b2 => k_asm
    case b3 => k_asm
    intro T6 tt6 tu6 tn6 th6 tk6 FT6 NT6 lT6
    have bT6 : @LT.lt Nat _ (S1.heap.objs.size + 1 + 1 + 1 + 1) T6 := lT6 (_, _) (.tail _ (.tail _ (.tail _ (.tail _ (.tail _ (.head _))))))
    clear lT6
    clear FT5 NT5
    with_reducible refine' pair_item ?b1 ?b2 ?b3 ?_
    case b1 => k_asm
    case b2 => k_asm
    case b3 => k_asm
    intro T7 tt7 tu7 tn7 th7 tk7 FT7 NT7 lT7
    have bT7 : @LT.lt Nat _ (S1.heap.objs.size + 1 + 1 + 1 + 1) T7 := lT7 (_, _) (.tail _ (.tail _ (.tail _ (.tail _ (.tail _ (.tail _ (.head _)))))))
    clear lT7
    clear FT6 NT6
    with_reducible refine' pair_item ?b1 ?b2 ?b3 ?_
    case b1 => k_asm
    case b2 => k_asm
    case b3 => k_asm
    intro T8 tt8 tu8 tn8 th8 tk8 FT8 NT8 lT8
    have bT8 : @LT.lt Nat _ (S1.heap.objs.size + 1 + 1 + 1 + 1) T8 := lT8 (_, _) (.tail _ (.tail _ (.tail _ (.tail _ (.tail _ (.tail _ (.tail _ (.head _))))))))
    clear lT8
    clear FT7 NT7
    repeat' ((fail_if_success (with_reducible show wpAny _ _ (call (Value.ref _) _) _ _ _)); walk_at "one step")
    rename News _ _ _ _ => N4
    with_reducible refine' pot_use ?b1 ?b2 ?b3 ?b4 ?b5 ?b6 ?b7 ?b8 ?r1 ?r2 ?r3 ?r4 ?d ?u ?_
    case b1 => k_asm
    case b2 => k_asm
    case b3 => k_asm
    case b4 => k_asm
    case b5 => k_asm
    case b6 => with_reducible assumption
    case b7 => with_reducible assumption
    case b8 => omega
    case r1 => exact rfl
    case r2 => exact rfl
    case r3 => exact rfl
    case r4 => exact rfl
    case d => exact Nat.le_of_ble_eq_true rfl
    case u => exact Nat.le_of_ble_eq_true rfl
    intro P C st t1 t2 cv ns' n nC h5 tk5 F5 N5 hP hC hne hi hl
    have hoff := off_fresh N4 hP hC hne
    have hoff2 := off_N hoff
    simp only [List.forall_mem_cons, List.not_mem_nil, false_imp_iff, implies_true, and_true] at hoff2
    clear N4
    (try k_unfold)
    (try dsimp only)
    repeat' ((fail_if_success (with_reducible show wpAny _ _ (call (Value.ref _) _) _ _ _)); (fail_if_success (with_reducible show LeaveK ..)); (fail_if_success (with_reducible show Mine.LawAt ..)); walk_at "one step")
    rename Fr _ _ _ _ => F9
    rename News _ _ _ _ => N9
    refine hMd _ ⟨_, _, _, P, C, _, st, 0, t1, t2, cv, ns', n, nC, _, _, _, _, none, [_, _, _, _, _, _, _, _, _, _], rfl, F9, fun p hp => N9 p (swap_mem (cs := [_, _, _, _]) (ns := [_, _, _, _, _, _, _, _, _, _]) hp), hi, hl, Int.le_refl _, Int.le_refl _, ?off, ?oo, ?d1, ?d2, ?d3, ?d4, rfl, _, names_of (.head _) ⟨_, _, _, (.tail _ (.tail _ (.tail _ (.tail _ (.tail _ (.tail _ (.tail _ (.tail _ (.tail _ (.head _))))))))))⟩ ⟨_, _, _, (.tail _ (.tail _ (.tail _ (.tail _ (.tail _ (.tail _ (.tail _ (.tail _ (.head _)))))))))⟩ ⟨_, _, _, (.tail _ (.tail _ (.tail _ (.tail _ (.tail _ (.tail _ (.tail _ (.head _))))))))⟩ ⟨_, _, _, (.tail _ (.tail _ (.tail _ (.tail _ (.tail _ (.tail _ (.head _)))))))⟩ ⟨_, _, _, (.tail _ (.tail _ (.tail _ (.tail _ (.tail _ (.head _))))))⟩ ⟨_, _, _, (.tail _ (.tail _ (.tail _ (.tail _ (.head _)))))⟩ ⟨_, _, _, (.tail _ (.tail _ (.tail _ (.head _))))⟩ ⟨_, _, _, (.tail _ (.tail _ (.head _)))⟩ ⟨_, _, _, (.tail _ (.head _))⟩⟩
    case oo => exact ownOff_lt (ownOff_lt (ownOff_lt (ownOff_lt (ownOff_lt (ownOff_lt (ownOff_lt (ownOff_lt (ownOff_lt (ownOff_lt (ownOff_nil) (by omega)) (by omega)) (by omega)) (by omega)) (by omega)) (by omega)) (by omega)) (by omega)) (by omega)) (by omega)
    case d1 => assumption
    case d2 => assumption
    case d3 => assumption
    case d4 => assumption
    case off => exact off_swap (cs := [_, _, _, _]) (cs' := [_, _, _, _]) (ns := [_, _, _, _, _, _, _, _, _, _]) hoff rfl
  rintro s9 ⟨h, tk, m, P, C, NL, st, pl, t1, t2, cv, ns, n, nC, o1, o2, o3, o4, ft, own, rfl, F1, N1, hi, hl, hp0, hp1, off, oo, d1, d2, d3, d4, rfl, nts, hN⟩
  with_reducible refine execs_midV (LawAt S1.heap S1.heap.objs.size S1 1 none St2) ?_ ?_
  · intro Md hMd
    repeat' ((fail_if_success (with_reducible show wpAny _ _ (call (Value.ref _) _) _ _ _)); (fail_if_success (with_reducible show LeaveK ..)); (fail_if_success (with_reducible show Mine.LawAt ..)); walk_at "one step")
    with_reducible refine' draw_use ?b1 ?b2 ?b3 ?b4 ?b5 ?b6 ?b7 ?b8 ?b9 ?b10 ?b11 ?b12 ?r1 ?r2 ?r3 ?r4 ?d ?u ?_
    case b1 => k_asm
    case b2 => k_asm
    case b3 => k_asm
    case b4 => k_asm
    case b5 => k_asm
    case b6 => exact hi
    case b7 => first | exact hl | omega
    case b8 => first | exact hp0 | omega
    case b9 => omega
    case b10 => exact off
    case b11 => decide
    case b12 => decide
    case r1 => exact rfl
    case r2 => exact rfl
    case r3 => exact rfl
    case r4 => exact rfl
    case d => exact Nat.le_of_ble_eq_true rfl
    case u => exact Nat.le_of_ble_eq_true rfl
    intro r tr st' pl' ts' tp' cv' ns' n' nC' h' tk' hr0 hr1 hpl hi' hl' F' N'
    subst hpl
    (try k_unfold)
    (try dsimp only)
    repeat' ((fail_if_success (with_reducible show wpAny _ _ (call (Value.ref _) _) _ _ _)); (fail_if_success (with_reducible show LeaveK ..)); (fail_if_success (with_reducible show Mine.LawAt ..)); walk_at "one step")
    rename Fr _ _ _ _ => F9
    rename News _ _ _ _ => N9
    refine hMd _ ⟨_, _, _, P, C, NL, st', pl + 1, _, _, cv', ns', _, _, o1, o2, o3, o4, none, own, rfl, F9, N9, hi', by omega, by omega, by omega, off, oo, d1, d2, d3, d4, rfl, nts, ?zwd, hN, ?zz1⟩
    case zz1 => k_dflt (first | exact rfl | exact hwd | exact hrows | exact hch | exact hhm | exact hcu | exact hoc | exact hdu | exact e1 | exact e2 | exact e3 | exact e4 | exact e5 | exact e6)
  clear F1 N1 hi hl hp0 hp1 off oo d1 d2 d3 d4 hN
  rintro s9 ⟨h, tk, m, P, C, NL, st, pl, t1, t2, cv, ns, n, nC, o1, o2, o3, o4, ft, own, rfl, F1, N1, hi, hl, hp0, hp1, off, oo, d1, d2, d3, d4, rfl, nts, wd, hN, hwd⟩
  with_reducible refine execs_midV (LawAt S1.heap S1.heap.objs.size S1 1 none St3) ?_ ?_
  · intro Md hMd
    repeat' ((fail_if_success (with_reducible show wpAny _ _ (call (Value.ref _) _) _ _ _)); (fail_if_success (with_reducible show LeaveK ..)); (fail_if_success (with_reducible show Mine.LawAt ..)); (fail_if_success (with_reducible show wpAny _ _ (exec (PySem.Stmt.Assign (_ :: _) (PySem.Expr.ListComp ..) ..) _) _ _ _)); walk_at "one step")
    k_dflt (refine LCg.Assign_ListComp_U (F₀ := by k_asm) (by rfl) (by with_unfolding_all rfl) (by with_unfolding_all rfl) (by decide) (by rfl) (by decide) (by rfl) (by rfl) (by rfl) ?_)
    repeat' ((fail_if_success (with_reducible show LCg.CompSrc ..)); walk_at "one step")
    rename Fr _ _ _ _ => F2
    rename News _ _ _ _ => N2
    rename IsRange _ _ _ _ _ _ _ _ => hr
    refine LCg.CompSrc.range (n := 256) rfl F2 N2 hr (by decide) (by decide) (by decide) ?_
    intro g1
    refine rest_same (fun i ys => ys = (List.range i).map (fun c => Value.ref (nts.getD ((7 * c + 1) % 9) 0))) ?_ rfl ?_
    · rintro i v ys I oI Cc oC Dd m₂ h6 tk6 E' hi6 ⟨t6, rfl⟩ rfl hC hx F6 N6 off6 ne6
      (try k_unfold)
      (try dsimp only)
      repeat' ((fail_if_success (with_reducible show wpAny _ _ (subscriptTail _ _ _ _) _ _ _)); walk_at "one step")
      have hk9 : (7 * (0 + (i : Int)) + 1).fmod 9 = (((7 * i + 1) % 9 : Nat) : Int) := by
        rw [Int.fmod_eq_emod_of_nonneg _ (by decide)]; omega
      have hj9 : (7 * i + 1) % 9 < nts.length := by rw [hN.1]; exact Nat.mod_lt _ (by decide)
      rw [hk9]
      obtain ⟨nN, hNL⟩ := hN.2.1
      rename News _ _ _ _ => N7
      refine sub_any (vs := nts.map Value.ref) (v := .ref (nts.getD ((7 * i + 1) % 9) 0)) (by exact News.isList (n := nN) N7 (.tail _ (.tail _ (.tail _ (.tail _ (.tail _ (.tail _ (.tail _ (.tail _ (.tail _ hNL)))))))))) (by omega) (by omega) (by rw [Int.toNat_natCast, List.getElem?_map]; simp [hj9]) ?_
      exact LCg.CompEnd.intro (by assumption) N7 _ (fun _ h => h) off6 trivial ⟨rfl, by rw [List.range_succ, List.map_append]; rfl⟩
    · rintro ys rfl
      intro D7 h7 tk7 F7 N7 o7
      have hoff7 := off1_mem o7
      (try k_unfold)
      (try dsimp only)
      refine hMd _ ⟨_, _, _, P, C, NL, st, pl, _, _, cv, ns, _, _, o1, o2, o3, o4, none, _ :: own, rfl, F7, fun p hp => N7 p (put_own hp), hi, hl, hp0, hp1, off_own off (fun e => hoff7 _ (.head _) e.symm) (fun e => hoff7 _ (.tail _ (.head _)) e.symm), ownOff_cons oo (fun e => hoff7 _ (.tail _ (.tail _ (.tail _ (.tail _ (.tail _ (.head _)))))) e.symm) (fun e => hoff7 _ (.tail _ (.tail _ (.tail _ (.tail _ (.head _))))) e.symm) (fun e => hoff7 _ (.tail _ (.tail _ (.tail _ (.head _)))) e.symm) (fun e => hoff7 _ (.tail _ (.tail _ (.head _))) e.symm), d1, d2, d3, d4, rfl, nts, wd, D7, (List.range 256).map (fun c => (7 * c + 1) % 9), _, own, by rw [rowsO, List.map_map]; rfl, fun p hp => hoff7 p (.tail _ (.tail _ (.tail _ (.tail _ (.tail _ (.tail _ hp)))))), hN, rows_ok, ?zz1, ?zz2⟩
      case zz1 => k_dflt (first | exact rfl | exact hwd | exact hrows | exact hch | exact hhm | exact hcu | exact hoc | exact hdu | exact e1 | exact e2 | exact e3 | exact e4 | exact e5 | exact e6)
      case zz2 => k_dflt (first | exact rfl | exact hwd | exact hrows | exact hch | exact hhm | exact hcu | exact hoc | exact hdu | exact e1 | exact e2 | exact e3 | exact e4 | exact e5 | exact e6)
  clear F1 N1 hi hl hp0 hp1 off oo d1 d2 d3 d4 hN
  rintro s9 ⟨h, tk, m, P, C, NL, st, pl, t1, t2, cv, ns, n, nC, o1, o2, o3, o4, ft, own, rfl, F1, N1, hi, hl, hp0, hp1, off, oo, d1, d2, d3, d4, rfl, nts, wd, R, cs, nR, own0, rfl, hR, hN, hcs, hwd, hrows⟩
  have offN := off_N off
  simp only [cells4, List.forall_mem_cons] at offN
  with_reducible refine execs_midV (Law4 S1.heap S1.heap.objs.size S1) ?_ ?_
  · intro Md hMd
    repeat' ((fail_if_success (with_reducible show wpAny _ _ (call (Value.ref _) _) _ _ _)); (fail_if_success (with_reducible show LeaveK ..)); (fail_if_success (with_reducible show Mine.LawAt ..)); walk_at "one step")
    with_reducible refine' draw_use ?b1 ?b2 ?b3 ?b4 ?b5 ?b6 ?b7 ?b8 ?b9 ?b10 ?b11 ?b12 ?r1 ?r2 ?r3 ?r4 ?d ?u ?_
    case b1 => k_asm
    case b2 => k_asm
    case b3 => k_asm
    case b4 => k_asm
    case b5 => k_asm
    case b6 => exact hi
    case b7 => first | exact hl | omega
    case b8 => first | exact hp0 | omega
    case b9 => omega
    case b10 => exact off
    case b11 => decide
    case b12 => decide
    case r1 => exact rfl
    case r2 => exact rfl
    case r3 => exact rfl
    case r4 => exact rfl
    case d => exact Nat.le_of_ble_eq_true rfl
    case u => exact Nat.le_of_ble_eq_true rfl
    intro r tr st' pl' ts' tp' cv' ns' n' nC' h' tk' hr0 hr1 hpl hi' hl' F' N'
    subst hpl
    (try k_unfold)
    (try dsimp only)
    repeat' ((fail_if_success (with_reducible show wpAny _ _ (call (Value.ref _) _) _ _ _)); (fail_if_success (with_reducible show LeaveK ..)); (fail_if_success (with_reducible show Mine.LawAt ..)); (fail_if_success (with_reducible show Exists _)); walk_at "one step")
    rename Fr _ _ _ _ => F9
    rename News _ _ _ _ => N9
    refine hMd _ ⟨60 + r, tk', by omega, by omega, _, _, _, P, C, NL, st', pl + 1, _, _, cv', ns', _, _, o1, o2, _, o4, none, _, rfl, F9, N9, hi', by omega, by omega, by omega, off_cells off, oo, d1, d2, ?zz3, d4, rfl, nts, wd, R, cs, nR, own0, rfl, hR, hN, hcs, ?zz1, ?zz2⟩
    case zz3 => assumption
    case zz1 => k_dflt (first | exact rfl | exact hwd | exact hrows | exact hch | exact hhm | exact hcu | exact hoc | exact hdu | exact e1 | exact e2 | exact e3 | exact e4 | exact e5 | exact e6)
    case zz2 => k_dflt (first | exact rfl | exact hwd | exact hrows | exact hch | exact hhm | exact hcu | exact hoc | exact hdu | exact e1 | exact e2 | exact e3 | exact e4 | exact e5 | exact e6)
  clear F1 N1 hi hl hp0 hp1 off oo d1 d2 d3 d4 hN offN hR hcs hwd hrows
  rintro s9 ⟨f0, tf, hf0, hf1, h, tk, m, P, C, NL, st, pl, t1, t2, cv, ns, n, nC, o1, o2, o3, o4, ft, own, rfl, F1, N1, hi, hl, hp0, hp1, off, oo, d1, d2, d3, d4, rfl, nts, wd, R, cs, nR, own0, rfl, hR, hN, hcs, hwd, hrows⟩
  have offN := off_N off
  simp only [cells4, List.forall_mem_cons] at offN
  with_reducible refine law_segB S1.heap S1.heap.objs.size S1 P C o1 o2 o3 6 none (St5 NL R nts wd) ?_ ?_
  · intro Md hMd
    repeat' ((fail_if_success (with_reducible show wpAny _ _ (call (Value.ref _) _) _ _ _)); (fail_if_success (with_reducible show LeaveK ..)); (fail_if_success (with_reducible show Mine.LawB ..)); (fail_if_success (with_reducible show wpAny _ _ (exec (PySem.Stmt.For ..) _) _ _ _)); walk_at "one step")
    (rename Fr _ _ _ _ => lF')
    (with_unfolding_all refine' For_invVF lF' ?k1 ?k2 ?_; (case k1 => exact rfl); (case k2 => exact rfl); k_whole)
    repeat' ((fail_if_success (with_reducible show wpAny _ _ (pyIter _) _ _ _)); walk_at "one step")
    rename Fr _ _ _ _ => F2
    rename News _ _ _ _ => N2
    rename IsRange _ _ _ _ _ _ _ _ => hr
    refine range_loopL (L := S1.heap.objs.size) (n := 4) rfl (StoreJ S1.heap.objs.size P C o1 o2 o3 o4 pl nts R own0 wd) rfl F2 N2 hr (by decide) (by decide) ?_ ?_ ?_
    · exact ⟨st, t1, t2, cv, ns, n, nC, cs, nR, by simp, hi, hl, hcs, by k_dflt (first | exact rfl | exact hwd | exact hrows | exact hch | exact hhm | exact hcu | exact hoc | exact hdu | exact e1 | exact e2 | exact e3 | exact e4 | exact e5 | exact e6), by k_dflt (first | exact rfl | exact hwd | exact hrows | exact hch | exact hhm | exact hcu | exact hoc | exact hdu | exact e1 | exact e2 | exact e3 | exact e4 | exact e5 | exact e6)⟩
    · rintro i u m₁ nw h6 tk6 I oI hi4 - ⟨st', t1', t2', cv', ns', n', nC', cs', nR', rfl, hi', hl', hcs', e1, e2⟩ hoff F6 N6 Tn hTn
      rw [map_has e2] at F6
      have N7 := news_rot N6
      have hIP : I ≠ P := (fun e => hoff _ (.head _) e.symm)
      have hIC : I ≠ C := (fun e => hoff _ (.tail _ (.head _)) e.symm)
      have off7 := off2_cons (x := (I, oI)) (off_head (o' := rowsO nts cs' nR') off) hIP hIC
      clear N6 F2 N2 hr
      (try dsimp only)
      repeat' ((fail_if_success (with_reducible show wpAny _ _ (call (Value.ref _) _) _ _ _)); (fail_if_success (with_reducible show Mine.TurnEnd ..)); walk_at "one step")
      with_reducible refine' draw_use ?b1 ?b2 ?b3 ?b4 ?b5 ?b6 ?b7 ?b8 ?b9 ?b10 ?b11 ?b12 ?r1 ?r2 ?r3 ?r4 ?d ?u ?_
      case b1 => k_asm
      case b2 => k_asm
      case b3 => k_asm
      case b4 => k_asm
      case b5 => k_asm
      case b6 => exact hi'
      case b7 => first | exact hl' | omega
      case b8 => first | exact hp0 | omega
      case b9 => omega
      case b10 => exact off7
      case b11 => decide
      case b12 => decide
      case r1 => exact rfl
      case r2 => exact rfl
      case r3 => exact rfl
      case r4 => exact rfl
      case d => exact Nat.le_of_ble_eq_true rfl
      case u => exact Nat.le_of_ble_eq_true rfl
      intro r8 tr8 st8' pl8' ts8' tp8' cv8' ns8' n8' nC8' h8' tk8' hr08 hr18 hpl8 hi8' hl8' F8' N8'
      subst hpl8
      (try k_unfold)
      (try dsimp only)
      repeat' ((fail_if_success (with_reducible show wpAny _ _ (subscriptTail _ _ _ _) _ _ _)); walk_at "one step")
      have hj9 : r8.toNat < nts.length := by rw [hN.1]; omega
      obtain ⟨nN, hNL⟩ := hN.2.1
      rename News _ _ _ _ => N7
      refine sub_any (vs := nts.map Value.ref) (v := .ref (nts.getD r8.toNat 0)) (by exact News.isList (n := nN) N7 (.tail _ (.tail _ (.tail _ (.tail _ (.tail _ (.tail _ (.tail _ (.tail _ hNL))))))))) hr08 (by omega) (by rw [List.getElem?_map]; simp [hj9]) ?_
      (try k_unfold)
      (try dsimp only)
      repeat' ((fail_if_success (with_reducible show wpAny _ _ (setItem _ _ _) _ _ _)); (fail_if_success (with_reducible show Mine.TurnEnd ..)); walk_at "one step")
      have hRm := off.2 (R, rowsO nts cs nR) (.tail _ (.tail _ (.tail _ (.tail _ (.head _)))))
      have hRo := oo _ (List.mem_cons_self (a := (R, rowsO nts cs nR)))
      refine set_any (vs := cs'.map fun k => Value.ref (nts.getD k 0)) F8' N7 (.tail (fun e => hRm.1 e.symm) (.tail (fun e => hRm.2 e.symm) (.tail (fun e => hoff _ (.tail _ (.tail _ (.tail _ (.tail _ (.tail _ (.tail _ (.head _))))))) e.symm) (.tail (fun e => hRo _ (.tail _ (.tail _ (.tail _ (.head _)))) e.symm) (.tail (fun e => hRo _ (.tail _ (.tail _ (.head _))) e.symm) (.tail (fun e => hRo _ (.tail _ (.head _)) e.symm) (.tail (fun e => hRo _ (.head _) e.symm) (.head hR)))))))) (by omega) (by rw [List.length_map, hcs'.1]; omega) (by omega) ?_
      intro h10 F10 N10
      rw [rowsO_set] at N10
      (try dsimp only)
      repeat' ((fail_if_success (with_reducible show Mine.TurnEnd ..)); walk_at "one step")
      refine hTn _ _ (TurnEnd.intro F10 N10 (potL P C st8' (pl + ↑i + 1) ts8' tp8' cv8' n8' nC8' (cells4 S1.heap.objs.size o1 o2 o3 o4 ((R, rowsO nts (cs'.set (f0 + (0 + ↑i * 1)).toNat r8.toNat) nR') :: own0))) (fun p hp => pot_tor hp) (pot_off hoff same_head) ⟨st8', ts8', tp8', cv8', ns8', n8', nC8', _, nR', by rw [Int.natCast_add, Int.natCast_one, Int.add_assoc], hi8', by omega, codes_set hcs' (by omega), ?z1, ?z2⟩)
      case z1 => k_dflt (first | exact rfl | exact hwd | exact hrows | exact hch | exact hhm | exact hcu | exact hoc | exact hdu | exact e1 | exact e2 | exact e3 | exact e4 | exact e5 | exact e6)
      case z2 => k_dflt (first | exact rfl | exact hwd | exact hrows | exact hch | exact hhm | exact hcu | exact hoc | exact hdu | exact e1 | exact e2 | exact e3 | exact e4 | exact e5 | exact e6)
    · rintro m₁ nw h6 tk6 ⟨st', t1', t2', cv', ns', n', nC', cs', nR', rfl, hi', hl', hcs', e1, e2⟩ F6 N6
      exact hMd _ ⟨h6, tk6, m₁, st', pl + ((4 : Nat) : Int), t1', t2', cv', ns', n', nC', o4, _, rfl, F6, N6, hi', hl', by omega, by omega, off_head off, ownOff_head oo, d4, cs', nR', hcs', .head _, hN.mono (fun p h => .tail _ h), e1, e2⟩
  clear F1 N1 hi hl hp0 hp1 off oo d4 hN offN hR hcs hwd hrows
  intro h tk m st pl t1 t2 cv ns n nC o4 own F1 N1 hi hl hp0 hp1 off oo d4 hst9
  obtain ⟨cs, nR, hcs, hR, hN, hwd, hrows⟩ := hst9
  with_reducible refine law_segB S1.heap S1.heap.objs.size S1 P C o1 o2 o3 6 none (St6 WW NL R nts cs nR wd) ?_ ?_
  · intro Md hMd
    repeat' ((fail_if_success (with_reducible show wpAny _ _ (call (Value.ref _) _) _ _ _)); (fail_if_success (with_reducible show LeaveK ..)); (fail_if_success (with_reducible show Mine.LawB ..)); walk_at "one step")
    rename Obj.IsDictOf (intKind _ _) _ _ => hdict
    rename _ ∧ _ => l1
    rename Fr _ _ _ _ => F9
    rename News _ _ _ _ => N9
    rename (_ == sysModules) = false => lo9
    refine hMd _ ⟨_, _, _, st, pl, t1, t2, cv, ns, n, nC, o4, _ :: own, rfl, F9, fun p hp => N9 p (put_own hp), hi, hl, hp0, hp1, off_new off l1.1 l1.2.1, ownOff_lt oo l1.2.2.1, d4, _, TupTab.ofEmpty (.head _) lo9 hdict, .tail _ hR, hN.mono (fun p h => .tail _ h), ?z1, ?z2, ?z3⟩
    case z1 => k_dflt (first | exact rfl | exact hwd | exact hrows | exact hch | exact hhm | exact hcu | exact hoc | exact hdu | exact e1 | exact e2 | exact e3 | exact e4 | exact e5 | exact e6)
    case z2 => k_dflt (first | exact rfl | exact hwd | exact hrows | exact hch | exact hhm | exact hcu | exact hoc | exact hdu | exact e1 | exact e2 | exact e3 | exact e4 | exact e5 | exact e6)
    case z3 => k_dflt (first | exact rfl | exact hwd | exact hrows | exact hch | exact hhm | exact hcu | exact hoc | exact hdu | exact e1 | exact e2 | exact e3 | exact e4 | exact e5 | exact e6)
  clear F1 N1 hi hl hp0 hp1 off oo d4 hN hR hwd hrows
  intro h tk m st pl t1 t2 cv ns n nC o4 own F1 N1 hi hl hp0 hp1 off oo d4 hst9
  obtain ⟨CH, tab, hR, hN, hwd, hrows, hch⟩ := hst9
  rw [map_has hch] at F1
  with_reducible refine law_segB S1.heap S1.heap.objs.size S1 P C o1 o2 o3 16 none (St7 WW NL R nts cs nR wd CH) ?_ ?_
  · intro Md hMd
    repeat' ((fail_if_success (with_reducible show wpAny _ _ (call (Value.ref _) _) _ _ _)); (fail_if_success (with_reducible show LeaveK ..)); (fail_if_success (with_reducible show Mine.LawB ..)); (fail_if_success (with_reducible show wpAny _ _ (exec (PySem.Stmt.For ..) _) _ _ _)); walk_at "one step")
    (rename Fr _ _ _ _ => lF')
    (with_unfolding_all refine' For_invVF lF' ?k1 ?k2 ?_; (case k1 => exact rfl); (case k2 => exact rfl); k_whole)
    repeat' ((fail_if_success (with_reducible show wpAny _ _ (pyIter _) _ _ _)); (fail_if_success (with_reducible show wpAny _ _ (call (Value.ref _) _) _ _ _)); walk_at "one step")
    with_reducible refine' draw_use ?b1 ?b2 ?b3 ?b4 ?b5 ?b6 ?b7 ?b8 ?b9 ?b10 ?b11 ?b12 ?r1 ?r2 ?r3 ?r4 ?d ?u ?_
    case b1 => k_asm
    case b2 => k_asm
    case b3 => k_asm
    case b4 => k_asm
    case b5 => k_asm
    case b6 => exact hi
    case b7 => first | exact hl | omega
    case b8 => first | exact hp0 | omega
    case b9 => omega
    case b10 => exact off
    case b11 => decide
    case b12 => decide
    case r1 => exact rfl
    case r2 => exact rfl
    case r3 => exact rfl
    case r4 => exact rfl
    case d => exact Nat.le_of_ble_eq_true rfl
    case u => exact Nat.le_of_ble_eq_true rfl
    intro r5 tr5 st5' pl5' ts5' tp5' cv5' ns5' n5' nC5' h5' tk5' hr05 hr15 hpl5 hi5' hl5' F5' N5'
    subst hpl5
    (try k_unfold)
    (try dsimp only)
    repeat' ((fail_if_success (with_reducible show wpAny _ _ (pyIter _) _ _ _)); walk_at "one step")
    rename Fr _ _ _ _ => F2
    rename News _ _ _ _ => N2
    rename IsRange _ _ _ _ _ _ _ _ => hr
    refine range_loopL (L := S1.heap.objs.size) (n := (r5 - 0).toNat) rfl (MapJ WW S1.heap.objs.size P C o1 o2 o3 o4 pl NL R nts cs nR wd CH) rfl F2 N2 hr (small_one (by decide) (by decide) (by omega) (by omega)) (rangeSize_nat 0 r5) ?_ ?_ ?_
    · exact ⟨_, _, _, _, _, _, _, own, [], by rw [Int.natCast_zero, Int.mul_zero, Int.add_zero], hi5', by omega, off, oo, tab, StrD.nil, Nat.le_refl _, hR, hN, by k_dflt (first | exact rfl | exact hwd | exact hrows | exact hch | exact hhm | exact hcu | exact hoc | exact hdu | exact e1 | exact e2 | exact e3 | exact e4 | exact e5 | exact e6), by k_dflt (first | exact rfl | exact hwd | exact hrows | exact hch | exact hhm | exact hcu | exact hoc | exact hdu | exact e1 | exact e2 | exact e3 | exact e4 | exact e5 | exact e6), by k_dflt (first | exact rfl | exact hwd | exact hrows | exact hch | exact hhm | exact hcu | exact hoc | exact hdu | exact e1 | exact e2 | exact e3 | exact e4 | exact e5 | exact e6)⟩
    · rintro i u m₁ nw h6 tk6 I oI hi4 hIc ⟨st', t1', t2', cv', ns', n', nC', own', D, rfl, hi', hl', off', oo', tab', hD', hDl', hR', hN', e1, e2, e3⟩ hoff F6 N6 Tn hTn
      rw [map_has e3] at F6
      have N7 := news_rot N6
      have hIP : I ≠ P := (fun e => hoff _ (.head _) e.symm)
      have hIC : I ≠ C := (fun e => hoff _ (.tail _ (.head _)) e.symm)
      have off7 := off2_cons (x := (I, oI)) off' hIP hIC
      clear N6 F2 N2 hr
      (try dsimp only)
      repeat' ((fail_if_success (with_reducible show wpAny _ _ (call (Value.ref _) _) _ _ _)); (fail_if_success (with_reducible show Mine.TurnEnd ..)); walk_at "one step")
      with_reducible refine' draw_use ?b1 ?b2 ?b3 ?b4 ?b5 ?b6 ?b7 ?b8 ?b9 ?b10 ?b11 ?b12 ?r1 ?r2 ?r3 ?r4 ?d ?u ?_
      case b1 => k_asm
      case b2 => k_asm
      case b3 => k_asm
      case b4 => k_asm
      case b5 => k_asm
      case b6 => exact hi'
      case b7 => first | exact hl' | omega
      case b8 => first | exact hp0 | omega
      case b9 => omega
      case b10 => exact off7
      case b11 => decide
      case b12 => decide
      case r1 => exact rfl
      case r2 => exact rfl
      case r3 => exact rfl
      case r4 => exact rfl
      case d => exact Nat.le_of_ble_eq_true rfl
      case u => exact Nat.le_of_ble_eq_true rfl
      intro r6 tr6 st6' pl6' ts6' tp6' cv6' ns6' n6' nC6' h6' tk6' hr06 hr16 hpl6 hi6' hl6' F6' N6'
      subst hpl6
      (try k_unfold)
      (try dsimp only)
      repeat' ((fail_if_success (with_reducible show wpAny _ _ (call (Value.ref _) _) _ _ _)); (fail_if_success (with_reducible show Mine.TurnEnd ..)); walk_at "one step")
      with_reducible refine' draw_use ?b1 ?b2 ?b3 ?b4 ?b5 ?b6 ?b7 ?b8 ?b9 ?b10 ?b11 ?b12 ?r1 ?r2 ?r3 ?r4 ?d ?u ?_
      case b1 => k_asm
      case b2 => k_asm
      case b3 => k_asm
      case b4 => k_asm
      case b5 => k_asm
      case b6 => exact hi6'
      case b7 => first | exact hl6' | omega
      case b8 => first | exact hp0 | omega
      case b9 => omega
      case b10 => exact off7
      case b11 => decide
      case b12 => decide
      case r1 => exact rfl
      case r2 => exact rfl
      case r3 => exact rfl
      case r4 => exact rfl
      case d => exact Nat.le_of_ble_eq_true rfl
      case u => exact Nat.le_of_ble_eq_true rfl
      intro r7 tr7 st7' pl7' ts7' tp7' cv7' ns7' n7' nC7' h7' tk7' hr07 hr17 hpl7 hi7' hl7' F7' N7'
      subst hpl7
      (try k_unfold)
      (try dsimp only)
      repeat' ((fail_if_success (with_reducible show wpAny _ _ (call (Value.ref _) _) _ _ _)); (fail_if_success (with_reducible show Mine.TurnEnd ..)); walk_at "one step")
      rename @LT.lt Nat _ _ _ ∧ @LT.lt Nat _ P _ ∧ @LT.lt Nat _ C _ ∧ _ => lD
      rename @LT.lt Nat _ P _ ∧ @LT.lt Nat _ C _ ∧ @LT.lt Nat _ I _ ∧ _ => lT
      rename News _ _ _ _ => N9
      have N10 := news_rot2 N9
      have off10 := off2_cons (x := (_, W.listOf #[] 0)) (off2_cons (x := (_, W.listOf #[] 0)) off7 (Nat.ne_of_gt lT.1) (Nat.ne_of_gt lT.2.1)) (Nat.ne_of_gt lD.2.1) (Nat.ne_of_gt lD.2.2.1)
      replace off10 := fun x y => off2_sub (own' := (_, x) :: (_, y) :: _) off10 fun p hp => (List.mem_cons.mp hp).elim (fun e => ⟨_, .head _, by rw [e]⟩) fun hp => (List.mem_cons.mp hp).elim (fun e => ⟨_, .tail _ (.head _), by rw [e]⟩) fun hp => ⟨p, .tail _ (.tail _ hp), rfl⟩
      clear N9
      with_reducible refine' draw_use ?b1 ?b2 ?b3 ?b4 ?b5 ?b6 ?b7 ?b8 ?b9 ?b10 ?b11 ?b12 ?r1 ?r2 ?r3 ?r4 ?d ?u ?_
      case b1 => k_asm
      case b2 => k_asm
      case b3 => k_asm
      case b4 => k_asm
      case b5 => k_asm
      case b6 => exact hi7'
      case b7 => first | exact hl7' | omega
      case b8 => first | exact hp0 | omega
      case b9 => omega
      case b10 => exact (off10 _ _)
      case b11 => decide
      case b12 => decide
      case r1 => exact rfl
      case r2 => exact rfl
      case r3 => exact rfl
      case r4 => exact rfl
      case d => exact Nat.le_of_ble_eq_true rfl
      case u => exact Nat.le_of_ble_eq_true rfl
      intro r8 tr8 st8' pl8' ts8' tp8' cv8' ns8' n8' nC8' h8' tk8' hr08 hr18 hpl8 hi8' hl8' F8' N8'
      subst hpl8
      (try k_unfold)
      (try dsimp only)
      repeat' ((fail_if_success (with_reducible show wpAny _ _ (subscriptTail _ _ _ _) _ _ _)); (fail_if_success (with_reducible show Mine.TurnEnd ..)); walk_at "one step")
      rename News _ _ _ _ => N11
      refine sub_menu4 N11 (.tail _ (.tail _ (.head _))) (by assumption) (by assumption) ⟨by decide, by decide +kernel⟩ ⟨by decide, by decide +kernel⟩ ⟨by decide, by decide +kernel⟩ ⟨by decide, by decide +kernel⟩ ?_
      intro zm ym hzm
      (try k_unfold)
      (try dsimp only)
      repeat' ((fail_if_success (with_reducible show wpAny _ _ (setItem _ _ _) _ _ _)); (fail_if_success (with_reducible show Mine.TurnEnd ..)); walk_at "one step")
      rename Fr _ _ _ _ => F12
      rename News _ _ _ _ => N12
      refine put_map (knd := intKind PRG WW) (enc := PyData.int) (dv := .str zm) same_int (Nat.le_of_ble_eq_true rfl) (PyProof.V.Flat.str _ _) F12 (fun p hp => N12 p (pot_mid hp)) (TupTab.cons tab' _) (.head _) (TupKeyObj.made (ItemsAre.cons (intKind_is _ _ _ _) (ItemsAre.cons (intKind_is _ _ _ _) ItemsAre.nil))) hIc d1 d2 d3 d4 (off_new off' lT.1 lT.2.1) (ownOff_lt oo' lT.2.2.2.1) (fun p hp => (List.mem_cons.mp hp).elim (fun e => e ▸ Nat.ne_of_gt lT.2.2.1) fun hp => hoff p (.tail _ (.tail _ (.tail _ (.tail _ (.tail _ (.tail _ hp))))))) ?_ (Nat.le_trans (Nat.le_trans hDl' (Nat.le_of_lt hi4)) (by rw [sizeLine_eq]; omega))
      intro h13 own13 F13 N13 T13 keep13 off13 oo13 hoff13
      (try dsimp only)
      repeat' ((fail_if_success (with_reducible show Mine.TurnEnd ..)); walk_at "one step")
      have k13 := keep_of (TupTab.cons tab' _) (fun p hp => N12 p (pot_mid (.tail _ (.tail _ (.tail _ (.tail _ (.tail _ (.tail _ (.tail _ hp))))))))) keep13
      refine hTn _ _ (TurnEnd.intro F13 N13 (potL P C st8' (pl + 1 + 3 * ↑i + 1 + 1 + 1) ts8' tp8' cv8' n8' nC8' (cells4 S1.heap.objs.size o1 o2 o3 o4 own13)) (fun p hp => pot_tor hp) (pot_offI hoff hoff13) ⟨st8', ts8', tp8', cv8', ns8', n8', nC8', own13, _, by rw [show pl + 1 + 3 * ((i + 1 : Nat) : Int) = pl + 1 + 3 * ↑i + 1 + 1 + 1 by omega], hi8', by omega, off13, oo13, T13, hD'.put hzm, Nat.le_trans (putD_length_le _ _ _) (Nat.succ_le_succ hDl'), k13 _ (.tail _ hR') (show Value.type "list" ≠ .type "dict" by decide), hN'.keep (fun p hp => k13 p (.tail _ hp)), ?z1, ?z2, ?z3⟩)
      case z1 => k_dflt (first | exact rfl | exact hwd | exact hrows | exact hch | exact hhm | exact hcu | exact hoc | exact hdu | exact e1 | exact e2 | exact e3 | exact e4 | exact e5 | exact e6)
      case z2 => k_dflt (first | exact rfl | exact hwd | exact hrows | exact hch | exact hhm | exact hcu | exact hoc | exact hdu | exact e1 | exact e2 | exact e3 | exact e4 | exact e5 | exact e6)
      case z3 => k_dflt (first | exact rfl | exact hwd | exact hrows | exact hch | exact hhm | exact hcu | exact hoc | exact hdu | exact e1 | exact e2 | exact e3 | exact e4 | exact e5 | exact e6)
    · rintro m₁ nw h6 tk6 ⟨st', t1', t2', cv', ns', n', nC', own', D, rfl, hi', hl', off', oo', tab', hD', hDl', hR', hN', e1, e2, e3⟩ F6 N6
      exact hMd _ ⟨h6, tk6, m₁, st', _, t1', t2', cv', ns', n', nC', o4, _, rfl, F6, N6, hi', hl', by omega, by omega, off', oo', d4, D, tab', hD', by omega, hR', hN', e1, e2, e3⟩
  clear F1 N1 hi hl hp0 hp1 off oo d4 hR hN tab hwd hrows hch
  intro h tk m st pl t1 t2 cv ns n nC o4 own F1 N1 hi hl hp0 hp1 off oo d4 hst9
  obtain ⟨D, tab, hD, hDl, hR, hN, hwd, hrows, hch⟩ := hst9
  with_reducible refine law_segB S1.heap S1.heap.objs.size S1 P C o1 o2 o3 17 none (St8 WW NL R nts cs nR wd CH D) ?_ ?_
  · intro Md hMd
    repeat' ((fail_if_success (with_reducible show wpAny _ _ (call (Value.ref _) _) _ _ _)); (fail_if_success (with_reducible show LeaveK ..)); (fail_if_success (with_reducible show Mine.LawB ..)); walk_at "one step")
    with_reducible refine' draw_use ?b1 ?b2 ?b3 ?b4 ?b5 ?b6 ?b7 ?b8 ?b9 ?b10 ?b11 ?b12 ?r1 ?r2 ?r3 ?r4 ?d ?u ?_
    case b1 => k_asm
    case b2 => k_asm
    case b3 => k_asm
    case b4 => k_asm
    case b5 => k_asm
    case b6 => exact hi
    case b7 => first | exact hl | omega
    case b8 => first | exact hp0 | omega
    case b9 => omega
    case b10 => exact off
    case b11 => decide
    case b12 => decide
    case r1 => exact rfl
    case r2 => exact rfl
    case r3 => exact rfl
    case r4 => exact rfl
    case d => exact Nat.le_of_ble_eq_true rfl
    case u => exact Nat.le_of_ble_eq_true rfl
    intro r8 tr8 st8' pl8' ts8' tp8' cv8' ns8' n8' nC8' h8' tk8' hr08 hr18 hpl8 hi8' hl8' F8' N8'
    subst hpl8
    (try k_unfold)
    (try dsimp only)
    repeat' ((fail_if_success (with_reducible show wpAny _ _ (call (Value.ref _) _) _ _ _)); (fail_if_success (with_reducible show LeaveK ..)); (fail_if_success (with_reducible show Mine.LawB ..)); walk_at "one step")
    rename Fr _ _ _ _ => F9
    rename News _ _ _ _ => N9
    refine hMd _ ⟨_, _, _, st8', pl + 1, _, _, cv8', ns8', _, _, o4, own, rfl, F9, N9, hi8', by omega, by omega, by omega, off, oo, d4, decide (0 < r8), tab, hR, hN, ?z1, ?z2, ?z3, ?z4⟩
    case z1 => k_dflt (first | exact rfl | exact hwd | exact hrows | exact hch | exact hhm | exact hcu | exact hoc | exact hdu | exact e1 | exact e2 | exact e3 | exact e4 | exact e5 | exact e6)
    case z2 => k_dflt (first | exact rfl | exact hwd | exact hrows | exact hch | exact hhm | exact hcu | exact hoc | exact hdu | exact e1 | exact e2 | exact e3 | exact e4 | exact e5 | exact e6)
    case z3 => k_dflt (first | exact rfl | exact hwd | exact hrows | exact hch | exact hhm | exact hcu | exact hoc | exact hdu | exact e1 | exact e2 | exact e3 | exact e4 | exact e5 | exact e6)
    case z4 => k_dflt (first | exact rfl | exact hwd | exact hrows | exact hch | exact hhm | exact hcu | exact hoc | exact hdu | exact e1 | exact e2 | exact e3 | exact e4 | exact e5 | exact e6)
  clear F1 N1 hi hl hp0 hp1 off oo d4 hR hN tab hwd hrows hch
  intro h tk m st pl t1 t2 cv ns n nC o4 own F1 N1 hi hl hp0 hp1 off oo d4 hst9
  obtain ⟨hm, tab, hR, hN, hwd, hrows, hch, hhm⟩ := hst9
  rw [map_has hwd] at F1
  with_reducible refine law_segB S1.heap S1.heap.objs.size S1 P C o1 o2 o3 17 none (St9 WW NL R nts cs nR wd CH D hm) ?_ ?_
  · intro Md hMd
    cases wd with
    | false =>
      repeat' ((fail_if_success (with_reducible show wpAny _ _ (call (Value.ref _) _) _ _ _)); (fail_if_success (with_reducible show LeaveK ..)); (fail_if_success (with_reducible show Mine.LawB ..)); walk_at "one step")
      rename Fr _ _ _ _ => F9
      rename News _ _ _ _ => N9
      refine hMd _ ⟨_, _, _, st, pl, t1, t2, cv, ns, n, nC, o4, own, rfl, F9, N9, hi, hl, hp0, hp1, off, oo, d4, .none, tab, hR, hN, .no, ?z1, ?z2, ?z3, ?z4, ?z5⟩
      case z1 => k_dflt (first | exact rfl | exact hwd | exact hrows | exact hch | exact hhm | exact hcu | exact hoc | exact hdu | exact e1 | exact e2 | exact e3 | exact e4 | exact e5 | exact e6)
      case z2 => k_dflt (first | exact rfl | exact hwd | exact hrows | exact hch | exact hhm | exact hcu | exact hoc | exact hdu | exact e1 | exact e2 | exact e3 | exact e4 | exact e5 | exact e6)
      case z3 => k_dflt (first | exact rfl | exact hwd | exact hrows | exact hch | exact hhm | exact hcu | exact hoc | exact hdu | exact e1 | exact e2 | exact e3 | exact e4 | exact e5 | exact e6)
      case z4 => k_dflt (first | exact rfl | exact hwd | exact hrows | exact hch | exact hhm | exact hcu | exact hoc | exact hdu | exact e1 | exact e2 | exact e3 | exact e4 | exact e5 | exact e6)
      case z5 => k_dflt (first | exact rfl | exact hwd | exact hrows | exact hch | exact hhm | exact hcu | exact hoc | exact hdu | exact e1 | exact e2 | exact e3 | exact e4 | exact e5 | exact e6)
    | true =>
      generalize hnw : potL P C st pl t1 t2 cv n nC (cells4 S1.heap.objs.size o1 o2 o3 o4 own) = nw at N1
      repeat' ((fail_if_success (with_reducible show wpAny _ _ (call (Value.ref _) _) _ _ _)); walk_at "one step")
      with_reducible refine' cmap_use ?b1 ?b2 ?b3 ?b4 ?b5 ?r1 ?r2 ?r3 ?r4 ?d ?u ?_
      case b1 => k_asm
      case b2 => k_asm
      case b3 => k_asm
      case b4 => k_asm
      case b5 => k_asm
      case r1 => exact rfl
      case r2 => exact rfl
      case r3 => exact rfl
      case r4 => exact rfl
      case d => exact Nat.le_of_ble_eq_true rfl
      case u => exact Nat.le_of_ble_eq_true rfl
      intro x9 d9 g1 g2 u1 u2 n9 h9 tk9 F8 N8 l8 l9
      (try k_unfold)
      (try dsimp only)
      repeat' ((fail_if_success (with_reducible show Mine.LawB ..)); walk_at "one step")
      rename Fr _ _ _ _ => F9
      rename News _ _ _ _ => N9
      subst hnw
      obtain ⟨N11, off11, oo11⟩ := news_splitC [_, _, _, _, _, _, _] N9 off oo (by
        refine List.forall_mem_cons.mpr ⟨?_, List.forall_mem_cons.mpr ⟨?_, List.forall_mem_cons.mpr ⟨fun p hp => l9 p (.tail _ (.tail _ (.tail _ hp))), List.forall_mem_cons.mpr ⟨fun p hp => l8 p (.tail _ (.tail _ (.tail _ hp))), List.forall_mem_cons.mpr ⟨?_, List.forall_mem_cons.mpr ⟨?_, List.forall_mem_cons.mpr ⟨?_, fun _ h => nomatch h⟩⟩⟩⟩⟩⟩⟩
        all_goals dsimp only
        all_goals (first | assumption | exact ktn_ltOf (by assumption) | exact ktn_ltOf (And.right (by assumption)) | exact ktn_ltOf (And.right (And.right (by assumption))) | exact ktn_ltOf (And.right (And.right (And.right (by assumption)))) | exact ktn_ltOf (And.right (And.right (And.right (And.right (by assumption))))) | exact ktn_ltOf (And.right (And.right (And.right (And.right (And.right (by assumption)))))) | exact ktn_ltOf (And.right (And.right (And.right (And.right (And.right (And.right (by assumption)))))))))
      refine hMd _ ⟨_, _, _, st, pl, t1, t2, cv, ns, n, nC, o4, _, rfl, F9, N11, hi, hl, hp0, hp1, off11, oo11, d4, _, tab_mono (fun p h => List.mem_append_right _ h) tab, List.mem_append_right _ hR, hN.mono (fun p h => List.mem_append_right _ h), .cut _ _ _ _ _ _ _ _ _ _ _ _ _ _ _ _ _ _ (.head _) (.tail _ (.tail _ (.head _))) (.tail _ (.tail _ (.tail _ (.head _)))) (.tail _ (.tail _ (.tail _ (.tail _ (.tail _ (.head _)))))) (.tail _ (.tail _ (.tail _ (.tail _ (.tail _ (.tail _ (.head _))))))), ?z1, ?z2, ?z3, ?z4, ?z5⟩
      case z1 => k_dflt (first | exact rfl | exact hwd | exact hrows | exact hch | exact hhm | exact hcu | exact hoc | exact hdu | exact e1 | exact e2 | exact e3 | exact e4 | exact e5 | exact e6)
      case z2 => k_dflt (first | exact rfl | exact hwd | exact hrows | exact hch | exact hhm | exact hcu | exact hoc | exact hdu | exact e1 | exact e2 | exact e3 | exact e4 | exact e5 | exact e6)
      case z3 => k_dflt (first | exact rfl | exact hwd | exact hrows | exact hch | exact hhm | exact hcu | exact hoc | exact hdu | exact e1 | exact e2 | exact e3 | exact e4 | exact e5 | exact e6)
      case z4 => k_dflt (first | exact rfl | exact hwd | exact hrows | exact hch | exact hhm | exact hcu | exact hoc | exact hdu | exact e1 | exact e2 | exact e3 | exact e4 | exact e5 | exact e6)
      case z5 => k_dflt (first | exact rfl | exact hwd | exact hrows | exact hch | exact hhm | exact hcu | exact hoc | exact hdu | exact e1 | exact e2 | exact e3 | exact e4 | exact e5 | exact e6)
  clear F1 N1 hi hl hp0 hp1 off oo d4 hR hN tab hwd hrows hch hhm
  intro h tk m st pl t1 t2 cv ns n nC o4 own F1 N1 hi hl hp0 hp1 off oo d4 hst9
  obtain ⟨cut, tab, hR, hN, hcut, hwd, hrows, hch, hhm, hcu⟩ := hst9
  rw [map_has hrows, map_has hcu, map_has hhm, map_has hch] at F1
  with_reducible refine law_segC S1.heap S1.heap.objs.size S1 P C o1 o2 o3 17 (St10 WW NL R nts cs nR wd CH D hm) ?_ ?_
  · intro Md hMd
    generalize hnw : potL P C st pl t1 t2 cv n nC (cells4 S1.heap.objs.size o1 o2 o3 o4 own) = nw at N1
    have kown : ∀ p ∈ own, p ∈ nw := fun p h => hnw ▸ .tail _ (.tail _ (.tail _ (.tail _ (.tail _ (.tail _ h)))))
    repeat' ((fail_if_success (with_reducible show Mine.LawC ..)); (fail_if_success (with_reducible show wpAny _ _ (eval (PySem.Expr.ListComp ..) _) _ _ _)); walk_at "one step")
    k_dflt (refine LCp.ListComp_P (F₀ := by k_asm) (by with_unfolding_all rfl) (by decide) (by rfl) (by decide) (by rfl) (by rfl) (by decide) ?_)
    repeat' ((fail_if_success (with_reducible show LCp.SrcLP ..)); walk_at "one step")
    rename Fr _ _ _ _ => F2
    rename News _ _ _ _ => N2
    refine LCp.SrcLP.ledger (its := (cs.map fun k => Value.ref (nts.getD k 0)).toArray) (k := nR) rfl F2 N2 (kown _ hR) (by rw [List.size_toArray, List.length_map, hcs.1]; exact Nat.le_of_ble_eq_true rfl) ?_
    intro g4
    refine pairs_strs (cs.map nmA) (by rw [List.size_toArray, List.length_map, List.length_map]) ?_ ?_ ?_
    · intro i v r hv hr
      obtain ⟨k, hk, rfl⟩ : ∃ k, cs[i]? = some k ∧ nmA k = r := by simpa [List.getElem?_map] using hr
      obtain ⟨t, a, b, nt, h1, h2⟩ := row_at hN hcs hk
      refine ⟨t, a, b, _, nt, ?_, kown _ h2⟩
      have hv' : (cs.map fun k => Value.ref (nts.getD k 0))[i]? = some v := by simpa using hv
      rw [h1] at hv'
      exact (Option.some.inj hv').symm
    · intro r a ys v2 I oI Cc oC Dd m2 h4 tk4 E' hC hx hx2 F5 N5 off5 ne5
      (try k_unfold)
      (try dsimp only)
      repeat' ((fail_if_success (with_reducible show LCg.CompEnd ..)); walk_at "one step")
      exact LCg.CompEnd.intro F5 N5 _ (fun _ h => h) off5 (Or.inr ⟨_, kown _ hR, rfl, _, rfl⟩) (TxEl.mk rfl rfl rfl)
    · intro ys hys
      intro D7 h7 tk7 F7 N7 o7
      subst hnw
      have hoff7 := off1_mem o7
      have N8 : News _ _ _ (potL P C st pl t1 t2 cv n nC (cells4 S1.heap.objs.size o1 o2 o3 o4 ((D7, LCg.lst ys) :: own))) := fun p hp => N7 p (put_own hp)
      have off8 := off_own (x := (D7, LCg.lst ys)) off (fun e => hoff7 _ (.head _) e.symm) (fun e => hoff7 _ (.tail _ (.head _)) e.symm)
      have oo8 := ownOff_cons (x := (D7, LCg.lst ys)) oo (fun e => hoff7 _ (.tail _ (.tail _ (.tail _ (.tail _ (.tail _ (.head _)))))) e.symm) (fun e => hoff7 _ (.tail _ (.tail _ (.tail _ (.tail _ (.head _))))) e.symm) (fun e => hoff7 _ (.tail _ (.tail _ (.tail _ (.head _)))) e.symm) (fun e => hoff7 _ (.tail _ (.tail _ (.head _))) e.symm)
      have hd8 : (D7, LCg.lst ys) ∈ (D7, LCg.lst ys) :: own := .head _
      have k8 : ∀ p ∈ own, p ∈ (D7, LCg.lst ys) :: own := fun p h => .tail _ h
      clear N7 o7 hoff7 F2 N2
      generalize (D7, LCg.lst ys) :: own = own8 at N8 off8 oo8 hd8 k8
      obtain ⟨nw0, N9, hc4, k9, hback⟩ := cell_split N8 off8 oo8
      have ooc : OwnOff nw0 [S1.heap.objs.size + 1 + 1 + 1 + 1] := fun p hp e he => List.mem_singleton.mp he ▸ hc4 p hp
      clear N8 kown
      (try k_unfold)
      (try dsimp only)
      cases hm with
      | false =>
        repeat' ((fail_if_success (with_reducible show wpAny _ _ (call (Value.ref _) _) _ _ _)); walk_at "one step")
        with_reducible refine' font_use ?b1 ?b2 ?b3 ?b4 ?b5 ?r1 ?r2 ?r3 ?r4 ?d ?u ?_
        case b1 => k_asm
        case b2 => k_asm
        case b3 => k_asm
        case b4 => k_asm
        case b5 => k_asm
        case r1 => exact rfl
        case r2 => exact rfl
        case r3 => exact rfl
        case r4 => exact rfl
        case d => exact Nat.le_of_ble_eq_true rfl
        case u => exact Nat.le_of_ble_eq_true rfl
        intro x9 d9 g1 g2 g3 g4 g5 g6 g7 u1 u2 u3 u4 u5 u6 u7 n9 h9 tk9 F10 N10 l9 l10
        (try k_unfold)
        (try dsimp only)
        have hx9 : @LT.lt Nat _ (S1.heap.objs.size + 1 + 1 + 1 + 1) x9 := l10 (_, o4) (.tail _ (.tail _ (.head _)))
        have hd9 : @LT.lt Nat _ (S1.heap.objs.size + 1 + 1 + 1 + 1) d9 := l9 (_, o4) (.tail _ (.tail _ (.head _)))
        repeat' (walk_at "one step")
        rename Fr _ _ _ _ => F11
        rename News _ _ _ _ => N11
        rename _ = Data.cell _ => d11
        obtain ⟨N12, off12, oo12⟩ := news_splitC [_, _, _, _] (fun p hp => N11 p (cell_back hback hp)) (off_cells off8) oo8 (by
          refine List.forall_mem_cons.mpr ⟨fun p hp => lt_swap (o := o4) (fun q hq => l10 q (.tail _ (.tail _ (hq)))) p (hback _ p hp), List.forall_mem_cons.mpr ⟨fun p hp => lt_swap (o := o4) (fun q hq => l9 q (.tail _ (.tail _ (hq)))) p (hback _ p hp), List.forall_mem_cons.mpr ⟨?_, List.forall_mem_cons.mpr ⟨?_, fun _ h => nomatch h⟩⟩⟩⟩
          all_goals dsimp only
          all_goals (first | exact fun p hp => lt_swap (lt_cons (o := o4) (by assumption)) p (hback _ p hp) | exact fun p hp => lt_swap (lt_cons (o := o4) (And.right (by assumption))) p (hback _ p hp) | exact fun p hp => lt_swap (lt_cons (o := o4) (And.right (And.right (by assumption)))) p (hback _ p hp) | exact fun p hp => lt_swap (lt_cons (o := o4) (And.right (And.right (And.right (by assumption))))) p (hback _ p hp) | exact fun p hp => lt_swap (lt_cons (o := o4) (And.right (And.right (And.right (And.right (by assumption)))))) p (hback _ p hp) | exact fun p hp => lt_swap (lt_cons (o := o4) (And.right (And.right (And.right (And.right (And.right (by assumption))))))) p (hback _ p hp) | exact fun p hp => lt_swap (o := o4) (by assumption) p (hback _ p hp)))
        have kk := kk_of N12 k8
        refine hMd _ ⟨_, _, _, st, pl, t1, t2, cv, ns, n, nC, _, _, _, rfl, F11, N12, hi, hl, hp0, hp1, off12, oo12, d11, _, rfl, tab_mono kk tab, kk _ hR, hN.mono kk, ⟨_, D7, ys, ys.length, _, _, _, _, _, _, _, _, _, _, _, _, _, _, _, _, _, _, _, _, _, .head _, .tail _ (.head _), List.mem_append_right _ hd8, hys, hcut.mono kk, .no⟩, ?z1, ?z2, ?z3, ?z4⟩
        case z1 => k_dflt (first | exact rfl | exact hwd | exact hrows | exact hch | exact hhm | exact hcu | exact hoc | exact hdu | exact e1 | exact e2 | exact e3 | exact e4 | exact e5 | exact e6)
        case z2 => k_dflt (first | exact rfl | exact hwd | exact hrows | exact hch | exact hhm | exact hcu | exact hoc | exact hdu | exact e1 | exact e2 | exact e3 | exact e4 | exact e5 | exact e6)
        case z3 => k_dflt (first | exact rfl | exact hwd | exact hrows | exact hch | exact hhm | exact hcu | exact hoc | exact hdu | exact e1 | exact e2 | exact e3 | exact e4 | exact e5 | exact e6)
        case z4 => k_dflt (first | exact rfl | exact hwd | exact hrows | exact hch | exact hhm | exact hcu | exact hoc | exact hdu | exact e1 | exact e2 | exact e3 | exact e4 | exact e5 | exact e6)
      | true =>
        repeat' ((fail_if_success (with_reducible show wpAny _ _ (call (Value.ref _) _) _ _ _)); walk_at "one step")
        with_reducible refine' cmap_use ?b1 ?b2 ?b3 ?b4 ?b5 ?r1 ?r2 ?r3 ?r4 ?d ?u ?_
        case b1 => k_asm
        case b2 => k_asm
        case b3 => k_asm
        case b4 => k_asm
        case b5 => k_asm
        case r1 => exact rfl
        case r2 => exact rfl
        case r3 => exact rfl
        case r4 => exact rfl
        case d => exact Nat.le_of_ble_eq_true rfl
        case u => exact Nat.le_of_ble_eq_true rfl
        intro x7 d7 v1 v2 w1 w2 n7 h9a tk9a F9a N9a l7 l7x
        (try k_unfold)
        (try dsimp only)
        repeat' ((fail_if_success (with_reducible show wpAny _ _ (call (Value.ref _) _) _ _ _)); walk_at "one step")
        with_reducible refine' font_use ?b1 ?b2 ?b3 ?b4 ?b5 ?r1 ?r2 ?r3 ?r4 ?d ?u ?_
        case b1 => k_asm
        case b2 => k_asm
        case b3 => k_asm
        case b4 => k_asm
        case b5 => k_asm
        case r1 => exact rfl
        case r2 => exact rfl
        case r3 => exact rfl
        case r4 => exact rfl
        case d => exact Nat.le_of_ble_eq_true rfl
        case u => exact Nat.le_of_ble_eq_true rfl
        intro x9 d9 g1 g2 g3 g4 g5 g6 g7 u1 u2 u3 u4 u5 u6 u7 n9 h9 tk9 F10 N10 l9 l10
        (try k_unfold)
        (try dsimp only)
        have hx7 : @LT.lt Nat _ (S1.heap.objs.size + 1 + 1 + 1 + 1) x7 := l7x (_, o4) (.tail _ (.head _))
        have hd7 : @LT.lt Nat _ (S1.heap.objs.size + 1 + 1 + 1 + 1) d7 := l7 (_, o4) (.tail _ (.head _))
        have hx9 : @LT.lt Nat _ (S1.heap.objs.size + 1 + 1 + 1 + 1) x9 := l10 (_, o4) (.tail _ (.tail _ (.tail _ (.tail _ (.tail _ (.head _))))))
        have hd9 : @LT.lt Nat _ (S1.heap.objs.size + 1 + 1 + 1 + 1) d9 := l9 (_, o4) (.tail _ (.tail _ (.tail _ (.tail _ (.tail _ (.head _))))))
        repeat' (walk_at "one step")
        rename Fr _ _ _ _ => F11
        rename News _ _ _ _ => N11
        rename _ = Data.cell _ => d11
        obtain ⟨N12, off12, oo12⟩ := news_splitC [_, _, _, _, _, _, _] (fun p hp => N11 p (cell_back hback hp)) (off_cells off8) oo8 (by
          refine List.forall_mem_cons.mpr ⟨fun p hp => lt_swap (o := o4) (fun q hq => l10 q (.tail _ (.tail _ (.tail _ (.tail _ (.tail _ (hq))))))) p (hback _ p hp), List.forall_mem_cons.mpr ⟨fun p hp => lt_swap (o := o4) (fun q hq => l9 q (.tail _ (.tail _ (.tail _ (.tail _ (.tail _ (hq))))))) p (hback _ p hp), List.forall_mem_cons.mpr ⟨?_, List.forall_mem_cons.mpr ⟨?_, List.forall_mem_cons.mpr ⟨fun p hp => lt_swap (o := o4) (fun q hq => l7x q (.tail _ (hq))) p (hback _ p hp), List.forall_mem_cons.mpr ⟨fun p hp => lt_swap (o := o4) (fun q hq => l7 q (.tail _ (hq))) p (hback _ p hp), List.forall_mem_cons.mpr ⟨?_, fun _ h => nomatch h⟩⟩⟩⟩⟩⟩⟩
          all_goals dsimp only
          all_goals (first | exact fun p hp => lt_swap (lt_cons (o := o4) (by assumption)) p (hback _ p hp) | exact fun p hp => lt_swap (lt_cons (o := o4) (And.right (by assumption))) p (hback _ p hp) | exact fun p hp => lt_swap (lt_cons (o := o4) (And.right (And.right (by assumption)))) p (hback _ p hp) | exact fun p hp => lt_swap (lt_cons (o := o4) (And.right (And.right (And.right (by assumption))))) p (hback _ p hp) | exact fun p hp => lt_swap (lt_cons (o := o4) (And.right (And.right (And.right (And.right (by assumption)))))) p (hback _ p hp) | exact fun p hp => lt_swap (lt_cons (o := o4) (And.right (And.right (And.right (And.right (And.right (by assumption))))))) p (hback _ p hp) | exact fun p hp => lt_swap (o := o4) (by assumption) p (hback _ p hp)))
        have kk := kk_of N12 k8
        refine hMd _ ⟨_, _, _, st, pl, t1, t2, cv, ns, n, nC, _, _, _, rfl, F11, N12, hi, hl, hp0, hp1, off12, oo12, d11, _, rfl, tab_mono kk tab, kk _ hR, hN.mono kk, ⟨_, D7, ys, ys.length, _, _, _, _, _, _, _, _, _, _, _, _, _, _, _, _, _, _, _, _, _, .head _, .tail _ (.head _), List.mem_append_right _ hd8, hys, hcut.mono kk, .map D _ _ CH _ _ _ _ _ _ (.tail _ (.tail _ (.tail _ (.tail _ (.head _))))) (.tail _ (.tail _ (.tail _ (.tail _ (.tail _ (.head _)))))) (tab_mono kk tab)⟩, ?z1, ?z2, ?z3, ?z4⟩
        case z1 => k_dflt (first | exact rfl | exact hwd | exact hrows | exact hch | exact hhm | exact hcu | exact hoc | exact hdu | exact e1 | exact e2 | exact e3 | exact e4 | exact e5 | exact e6)
        case z2 => k_dflt (first | exact rfl | exact hwd | exact hrows | exact hch | exact hhm | exact hcu | exact hoc | exact hdu | exact e1 | exact e2 | exact e3 | exact e4 | exact e5 | exact e6)
        case z3 => k_dflt (first | exact rfl | exact hwd | exact hrows | exact hch | exact hhm | exact hcu | exact hoc | exact hdu | exact e1 | exact e2 | exact e3 | exact e4 | exact e5 | exact e6)
        case z4 => k_dflt (first | exact rfl | exact hwd | exact hrows | exact hch | exact hhm | exact hcu | exact hoc | exact hdu | exact e1 | exact e2 | exact e3 | exact e4 | exact e5 | exact e6)
  clear F1 N1 hi hl hp0 hp1 off oo d4 hR hN tab hcut hwd hrows hch hhm hcu
  intro h tk m st pl t1 t2 cv ns n nC o4 ft own F1 N1 hi hl hp0 hp1 off oo d4 hst9
  obtain ⟨xF, hft, tab, hR, hN, hF, hwd, hrows, hch, hhm⟩ := hst9
  rw [hft] at d4
  clear hft
  with_reducible refine law_segB S1.heap S1.heap.objs.size S1 P C o1 o2 o3 24 (some (.ref xF)) (St11 WW NL R nts cs nR wd CH D hm xF) ?_ ?_
  · intro Md hMd
    repeat' ((fail_if_success (with_reducible show Mine.LawB ..)); (fail_if_success (with_reducible show wpAny _ _ (eval (PySem.Expr.ListComp ..) _) _ _ _)); walk_at "one step")
    k_dflt (refine LCg.ListComp_U (F₀ := by k_asm) (by with_unfolding_all rfl) (by decide) (by rfl) (by decide) (by rfl) ?_)
    repeat' ((fail_if_success (with_reducible show LCg.CompSrc ..)); (fail_if_success (with_reducible show wpAny _ _ (call (Value.ref _) _) _ _ _)); walk_at "one step")
    with_reducible refine' draw_use ?b1 ?b2 ?b3 ?b4 ?b5 ?b6 ?b7 ?b8 ?b9 ?b10 ?b11 ?b12 ?r1 ?r2 ?r3 ?r4 ?d ?u ?_
    case b1 => k_asm
    case b2 => k_asm
    case b3 => k_asm
    case b4 => k_asm
    case b5 => k_asm
    case b6 => exact hi
    case b7 => first | exact hl | omega
    case b8 => first | exact hp0 | omega
    case b9 => omega
    case b10 => exact off
    case b11 => decide
    case b12 => decide
    case r1 => exact rfl
    case r2 => exact rfl
    case r3 => exact rfl
    case r4 => exact rfl
    case d => exact Nat.le_of_ble_eq_true rfl
    case u => exact Nat.le_of_ble_eq_true rfl
    intro r5 tr5 st5' pl5' ts5' tp5' cv5' ns5' n5' nC5' h5' tk5' hr05 hr15 hpl5 hi5' hl5' F5' N5'
    subst hpl5
    (try k_unfold)
    (try dsimp only)
    repeat' ((fail_if_success (with_reducible show LCg.CompSrc ..)); (fail_if_success (with_reducible show wpAny _ _ (call (Value.ref _) _) _ _ _)); walk_at "one step")
    rename Fr _ _ _ _ => F2
    rename News _ _ _ _ => N2
    rename IsRange _ _ _ _ _ _ _ _ => hr
    refine LCg.CompSrc.range (n := (r5 - 0).toNat) rfl F2 N2 hr (small_one (by decide) (by decide) (by omega) (by omega)) (rangeSize_nat 0 r5) (by rw [sizeLine_eq]; omega) ?_
    intro g1
    refine rest_inv (OctJ S1.heap.objs.size P C o1 o2 o3 o4 pl own) ?_ ⟨_, _, _, _, _, _, _, [], by rw [Int.natCast_zero, Int.add_zero], hi5', by omega, .nil, rfl, fun _ h => nomatch h⟩ ?_
    · rintro i v ys nw I oI Cc oC Dd m₂ h6 tk6 E' hi6 ⟨t6, rfl⟩ ⟨st', t1', t2', cv', ns', n', nC', ks, rfl, hi', hl', hks, hkl, hk0⟩ hC hx F6 N6 off6 ne6
      have N7 := news_rot3 N6
      have off7 := off2_cons3 (oI := oI) (oJ := oC) (oK := LCg.lst ys) off off6 (.head _) (.tail _ (.head _))
      clear N6 F2 N2 hr
      (try k_unfold)
      (try dsimp only)
      repeat' ((fail_if_success (with_reducible show LCg.CompEnd ..)); (fail_if_success (with_reducible show wpAny _ _ (call (Value.ref _) _) _ _ _)); walk_at "one step")
      with_reducible refine' draw_use ?b1 ?b2 ?b3 ?b4 ?b5 ?b6 ?b7 ?b8 ?b9 ?b10 ?b11 ?b12 ?r1 ?r2 ?r3 ?r4 ?d ?u ?_
      case b1 => k_asm
      case b2 => k_asm
      case b3 => k_asm
      case b4 => k_asm
      case b5 => k_asm
      case b6 => exact hi'
      case b7 => first | exact hl' | omega
      case b8 => first | exact hp0 | omega
      case b9 => omega
      case b10 => exact off7
      case b11 => decide
      case b12 => decide
      case r1 => exact rfl
      case r2 => exact rfl
      case r3 => exact rfl
      case r4 => exact rfl
      case d => exact Nat.le_of_ble_eq_true rfl
      case u => exact Nat.le_of_ble_eq_true rfl
      intro r8 tr8 st8' pl8' ts8' tp8' cv8' ns8' n8' nC8' h8' tk8' hr08 hr18 hpl8 hi8' hl8' F8' N8'
      subst hpl8
      (try k_unfold)
      (try dsimp only)
      repeat' ((fail_if_success (with_reducible show LCg.CompEnd ..)); (fail_if_success (with_reducible show _ ∧ _)); walk_at "one step")
      rename Fr _ _ _ _ => F9
      rename News _ _ _ _ => N9
      refine LCg.CompEnd.intro F9 N9 (potL P C st8' (pl + 1 + ↑i + 1) ts8' tp8' cv8' n8' nC8' (cells4 S1.heap.objs.size o1 o2 o3 o4 own)) (fun p hp => pot_tor3 hp) (off3_pot off6) trivial ⟨st8', ts8', tp8', cv8', ns8', n8', nC8', ks ++ [f0 + r8], by rw [Int.natCast_add, Int.natCast_one, Int.add_assoc], hi8', by omega, ints_snoc1 hks, by rw [List.length_append, hkl]; rfl, fun o ho => ?_⟩
      rcases List.mem_append.mp ho with ho | ho
      · exact hk0 o ho
      · rw [List.mem_singleton.mp ho]; omega
    · rintro ys nw ⟨st', t1', t2', cv', ns', n', nC', ks, rfl, hi', hl', hks, hkl, hk0⟩
      intro D7 h7 tk7 F7 N7 o7
      (try k_unfold)
      (try dsimp only)
      repeat' ((fail_if_success (with_reducible show Mine.LawB ..)); (fail_if_success (with_reducible show wpAny _ _ (call (Value.type "bytes") _) _ _ _)); walk_at "one step")
      rename Fr _ _ _ _ => F2
      rename News _ _ _ _ => N2
      have hIn : KBa.In ks := fun o ho => by have := hk0 o ho; omega
      refine KBa.make_K F2 N2 rfl (News.isList N2 (.head _)) hks hIn (by omega) ?_
      intro h8 t8 k8 F8 N8 _
      (try k_unfold)
      (try dsimp only)
      repeat' ((fail_if_success (with_reducible show Mine.LawB ..)); walk_at "one step")
      rename Fr _ _ _ _ => F9
      rename News _ _ _ _ => N9
      refine hMd _ ⟨_, _, _, st', pl + 1 + (((r5 - 0).toNat : Nat) : Int), _, _, cv', ns', _, _, o4, own, rfl, F9, fun p hp => N9 p (.tail _ hp), hi', hl', by omega, by omega, off, oo, d4, byteArr ks, t8, ks, KBa.ints_make hIn, by omega, hk0, tab, hR, hN, hF, ?z1, ?z2, ?z3, ?z4, ?z5⟩
      case z1 => k_dflt (first | exact rfl | exact hwd | exact hrows | exact hch | exact hhm | exact hcu | exact hoc | exact hdu | exact e1 | exact e2 | exact e3 | exact e4 | exact e5 | exact e6)
      case z2 => k_dflt (first | exact rfl | exact hwd | exact hrows | exact hch | exact hhm | exact hcu | exact hoc | exact hdu | exact e1 | exact e2 | exact e3 | exact e4 | exact e5 | exact e6)
      case z3 => k_dflt (first | exact rfl | exact hwd | exact hrows | exact hch | exact hhm | exact hcu | exact hoc | exact hdu | exact e1 | exact e2 | exact e3 | exact e4 | exact e5 | exact e6)
      case z4 => k_dflt (first | exact rfl | exact hwd | exact hrows | exact hch | exact hhm | exact hcu | exact hoc | exact hdu | exact e1 | exact e2 | exact e3 | exact e4 | exact e5 | exact e6)
      case z5 => k_dflt (first | exact rfl | exact hwd | exact hrows | exact hch | exact hhm | exact hcu | exact hoc | exact hdu | exact e1 | exact e2 | exact e3 | exact e4 | exact e5 | exact e6)
  clear F1 N1 hi hl hp0 hp1 off oo d4 hR hN tab hF hwd hrows hch hhm
  intro h tk m st pl t1 t2 cv ns n nC o4 own F1 N1 hi hl hp0 hp1 off oo d4 hst9
  obtain ⟨b, tb, ks, hb, hkl, hk0, tab, hR, hN, hF, hwd, hrows, hch, hhm, hoc⟩ := hst9
  with_reducible refine law_segB S1.heap S1.heap.objs.size S1 P C o1 o2 o3 24 (some (.ref xF)) (St12 WW NL R nts cs nR wd CH D hm xF b tb) ?_ ?_
  · intro Md hMd
    repeat' ((fail_if_success (with_reducible show Mine.LawB ..)); (fail_if_success (with_reducible show wpAny _ _ (call (Value.ref _) _) _ _ _)); walk_at "one step")
    rename _ ∧ _ => l1
    rename Fr _ _ _ _ => F9
    rename News _ _ _ _ => N9
    refine hMd _ ⟨_, _, _, st, pl, t1, t2, cv, ns, n, nC, o4, _ :: own, rfl, F9, fun p hp => N9 p (put_own hp), hi, hl, hp0, hp1, off_new off l1.1 l1.2.1, ownOff_lt oo l1.2.2.1, d4, _, own, _, rfl, fun p hp => Nat.ne_of_lt (ktn_ltOf l1.2.2.2.2.2.2 p hp), tab, hR, hN, hF, ?z1, ?z2, ?z3, ?z4, ?z5, ?z6⟩
    case z1 => k_dflt (first | exact rfl | exact hwd | exact hrows | exact hch | exact hhm | exact hcu | exact hoc | exact hdu | exact e1 | exact e2 | exact e3 | exact e4 | exact e5 | exact e6)
    case z2 => k_dflt (first | exact rfl | exact hwd | exact hrows | exact hch | exact hhm | exact hcu | exact hoc | exact hdu | exact e1 | exact e2 | exact e3 | exact e4 | exact e5 | exact e6)
    case z3 => k_dflt (first | exact rfl | exact hwd | exact hrows | exact hch | exact hhm | exact hcu | exact hoc | exact hdu | exact e1 | exact e2 | exact e3 | exact e4 | exact e5 | exact e6)
    case z4 => k_dflt (first | exact rfl | exact hwd | exact hrows | exact hch | exact hhm | exact hcu | exact hoc | exact hdu | exact e1 | exact e2 | exact e3 | exact e4 | exact e5 | exact e6)
    case z5 => k_dflt (first | exact rfl | exact hwd | exact hrows | exact hch | exact hhm | exact hcu | exact hoc | exact hdu | exact e1 | exact e2 | exact e3 | exact e4 | exact e5 | exact e6)
    case z6 => k_dflt (first | exact rfl | exact hwd | exact hrows | exact hch | exact hhm | exact hcu | exact hoc | exact hdu | exact e1 | exact e2 | exact e3 | exact e4 | exact e5 | exact e6)
  clear F1 N1 hi hl hp0 hp1 off oo d4 hR hN tab hF hwd hrows hch hhm hoc
  intro h tk m st pl t1 t2 cv ns n nC o4 own F1 N1 hi hl hp0 hp1 off oo d4 hst9
  obtain ⟨DU, own0, kU, hown, hDU, tab, hR, hN, hF, hwd, hrows, hch, hhm, hoc, hdu⟩ := hst9
  rw [map_has hwd, map_has hrows, map_has hch, map_has hhm, map_has hoc, map_has hdu] at F1
  subst hown
  obtain ⟨nw0, N2, hnw, kown, hcell⟩ := end_split N1 off oo hDU
  have hE : EndAt WW S1.heap.objs.size wd hm D CH R xF NL nts cs nR nw0 := ⟨tab_mono kown tab, kown _ hR, hN.mono kown, hF.mono kown, o4, hcell, d4⟩
  clear N1 off oo hDU hi hl hp0 hp1 tab hR hN hF kown hcell
  with_reducible refine law_segD S1.heap S1.heap.objs.size S1 (St13 WW S1.heap.objs.size wd hm D CH R xF NL nts cs nR b tb ks DU) ?_ ?_
  · intro Md hMd
    repeat' ((fail_if_success (with_reducible show Mine.LawD ..)); (fail_if_success (with_reducible show wpAny _ _ (exec (PySem.Stmt.For ..) _) _ _ _)); walk_at "one step")
    (rename Fr _ _ _ _ => lF')
    (with_unfolding_all refine' For_invVF lF' ?k1 ?k2 ?_; (case k1 => exact rfl); (case k2 => exact rfl); k_whole)
    repeat' ((fail_if_success (with_reducible show wpAny _ _ (pyIter _) _ _ _)); walk_at "one step")
    have hbl : b.size = ks.length := by rw [← hb]; simp [KBw.bInts]
    refine bytes_loopL (L := S1.heap.objs.size) rfl (DueJ S1.heap.objs.size wd hm D CH R DU cs b tb ks nw0) rfl lF' N2 ?_ ?_ ?_
    · exact ⟨[], kU, rfl, .nil, by k_dflt (first | exact rfl | exact hwd | exact hrows | exact hch | exact hhm | exact hcu | exact hoc | exact hdu | exact e1 | exact e2 | exact e3 | exact e4 | exact e5 | exact e6), by k_dflt (first | exact rfl | exact hwd | exact hrows | exact hch | exact hhm | exact hcu | exact hoc | exact hdu | exact e1 | exact e2 | exact e3 | exact e4 | exact e5 | exact e6), by k_dflt (first | exact rfl | exact hwd | exact hrows | exact hch | exact hhm | exact hcu | exact hoc | exact hdu | exact e1 | exact e2 | exact e3 | exact e4 | exact e5 | exact e6), by k_dflt (first | exact rfl | exact hwd | exact hrows | exact hch | exact hhm | exact hcu | exact hoc | exact hdu | exact e1 | exact e2 | exact e3 | exact e4 | exact e5 | exact e6), by k_dflt (first | exact rfl | exact hwd | exact hrows | exact hch | exact hhm | exact hcu | exact hoc | exact hdu | exact e1 | exact e2 | exact e3 | exact e4 | exact e5 | exact e6), by k_dflt (first | exact rfl | exact hwd | exact hrows | exact hch | exact hhm | exact hcu | exact hoc | exact hdu | exact e1 | exact e2 | exact e3 | exact e4 | exact e5 | exact e6)⟩
    · rintro i nb u m₁ nw h6 tk6 I oI hi4 ⟨vs, kV, rfl, hvs, e1, e2, e3, e4, e5, e6⟩ hoff F6 N6 Tn hTn
      rw [map_has e1, map_has e2, map_has e3, map_has e4, map_has e5, map_has e6] at F6
      clear N2 lF'
      (try dsimp only)
      have ho := byte_at hb hi4
      have hz := hk0 _ (List.mem_of_getElem? ho)
      have hID : (@Ne Nat I DU) := fun e => hoff (DU, W.listOf vs.toArray kV) (.head _) e.symm
      have hDI : (@Ne Nat DU I) := fun e => hID e.symm
      obtain ⟨k, hck, hcg⟩ := code_some hcs hz.2
      obtain ⟨rt, ra, rb, rn, hr1, hr2⟩ := row_at hE.names hcs hck
      have hrw := hE.rows
      cases hm with
      | false =>
        cases wd with
        | false =>
          repeat' ((fail_if_success (with_reducible show Mine.TurnEnd ..)); (fail_if_success (with_reducible show wpAny _ _ (subscriptTail _ _ _ _) _ _ _)); walk_at "one step")
          rename News _ _ _ _ => N7
          refine sub_any (vs := cs.map fun k => Value.ref (nts.getD k 0)) (News.isList N7 (.tail _ (.tail _ (hrw)))) hz.1 (by omega) hr1 ?_
          (try k_unfold)
          (try dsimp only)
          repeat' ((fail_if_success (with_reducible show Mine.TurnEnd ..)); (fail_if_success (with_reducible show wpAny _ _ (subscriptTail _ _ _ _) _ _ _)); walk_at "one step")
          rename News _ _ _ _ => N7
          refine tup_at N7 (.tail _ (.tail _ (hr2))) ?_
          (try k_unfold)
          (try dsimp only)
          repeat' ((fail_if_success (with_reducible show Mine.TurnEnd ..)); (fail_if_success (with_reducible show wpAny _ _ (call (Value.builtin "list.append") _) _ _ _)); walk_at "one step")
          rename Fr _ _ _ _ => F7
          rename News _ _ _ _ => N7
          refine due_append F7 (fun p hp => N7 p (hp)) hID hnw (by rw [strs_len hvs, List.length_map, List.length_take]; omega) ?_
          intro h9 F9 N9
          (try k_unfold)
          (try dsimp only)
          repeat' ((fail_if_success (with_reducible show Mine.TurnEnd ..)); walk_at "one step")
          refine hTn _ _ (TurnEnd.intro F9 N9 _ (fun _ h => h) (fun p hp => (List.mem_cons.mp hp).elim (fun e => e ▸ hDI) fun hp => hoff p (.tail _ hp)) ⟨_, _, rfl, due_snoc hvs ho (due_no.trans (by rw [hcg]; rfl)), ?z1, ?z2, ?z3, ?z4, ?z5, ?z6⟩)
          case z1 => k_dflt (first | exact rfl | exact hwd | exact hrows | exact hch | exact hhm | exact hcu | exact hoc | exact hdu | exact e1 | exact e2 | exact e3 | exact e4 | exact e5 | exact e6)
          case z2 => k_dflt (first | exact rfl | exact hwd | exact hrows | exact hch | exact hhm | exact hcu | exact hoc | exact hdu | exact e1 | exact e2 | exact e3 | exact e4 | exact e5 | exact e6)
          case z3 => k_dflt (first | exact rfl | exact hwd | exact hrows | exact hch | exact hhm | exact hcu | exact hoc | exact hdu | exact e1 | exact e2 | exact e3 | exact e4 | exact e5 | exact e6)
          case z4 => k_dflt (first | exact rfl | exact hwd | exact hrows | exact hch | exact hhm | exact hcu | exact hoc | exact hdu | exact e1 | exact e2 | exact e3 | exact e4 | exact e5 | exact e6)
          case z5 => k_dflt (first | exact rfl | exact hwd | exact hrows | exact hch | exact hhm | exact hcu | exact hoc | exact hdu | exact e1 | exact e2 | exact e3 | exact e4 | exact e5 | exact e6)
          case z6 => k_dflt (first | exact rfl | exact hwd | exact hrows | exact hch | exact hhm | exact hcu | exact hoc | exact hdu | exact e1 | exact e2 | exact e3 | exact e4 | exact e5 | exact e6)
        | true =>
          repeat' ((fail_if_success (with_reducible show Mine.TurnEnd ..)); (fail_if_success (with_reducible show wpAny _ _ (call (Value.builtin "list.append") _) _ _ _)); walk_at "one step")
          rename Fr _ _ _ _ => F7
          rename News _ _ _ _ => N7
          refine due_append F7 (fun p hp => N7 p (hp)) hID hnw (by rw [strs_len hvs, List.length_map, List.length_take]; omega) ?_
          intro h9 F9 N9
          (try k_unfold)
          (try dsimp only)
          repeat' ((fail_if_success (with_reducible show Mine.TurnEnd ..)); walk_at "one step")
          refine hTn _ _ (TurnEnd.intro F9 N9 _ (fun _ h => h) (fun p hp => (List.mem_cons.mp hp).elim (fun e => e ▸ hDI) fun hp => hoff p (.tail _ hp)) ⟨_, _, rfl, due_snoc hvs ho due_no, ?z1, ?z2, ?z3, ?z4, ?z5, ?z6⟩)
          case z1 => k_dflt (first | exact rfl | exact hwd | exact hrows | exact hch | exact hhm | exact hcu | exact hoc | exact hdu | exact e1 | exact e2 | exact e3 | exact e4 | exact e5 | exact e6)
          case z2 => k_dflt (first | exact rfl | exact hwd | exact hrows | exact hch | exact hhm | exact hcu | exact hoc | exact hdu | exact e1 | exact e2 | exact e3 | exact e4 | exact e5 | exact e6)
          case z3 => k_dflt (first | exact rfl | exact hwd | exact hrows | exact hch | exact hhm | exact hcu | exact hoc | exact hdu | exact e1 | exact e2 | exact e3 | exact e4 | exact e5 | exact e6)
          case z4 => k_dflt (first | exact rfl | exact hwd | exact hrows | exact hch | exact hhm | exact hcu | exact hoc | exact hdu | exact e1 | exact e2 | exact e3 | exact e4 | exact e5 | exact e6)
          case z5 => k_dflt (first | exact rfl | exact hwd | exact hrows | exact hch | exact hhm | exact hcu | exact hoc | exact hdu | exact e1 | exact e2 | exact e3 | exact e4 | exact e5 | exact e6)
          case z6 => k_dflt (first | exact rfl | exact hwd | exact hrows | exact hch | exact hhm | exact hcu | exact hoc | exact hdu | exact e1 | exact e2 | exact e3 | exact e4 | exact e5 | exact e6)
      | true =>
        repeat' ((fail_if_success (with_reducible show Mine.TurnEnd ..)); (fail_if_success (with_reducible show wpAny _ _ (compareOp CmpOp.In _ _) _ _ _)); walk_at "one step")
        rename News _ _ _ _ => N7
        cases hlk : lookup (mapK (nb.toNat : Int)) D with
        | none =>
          refine in_tupTab_eq (b := false) same_int (Nat.le_of_ble_eq_true rfl) N7 (TupTab.cons (TupTab.cons (TupTab.cons hE.tab _) _) _) (.head _) (key_obj WW 1 (nb.toNat : Int) _ _ 0) (by rw [mapK] at hlk; rw [hlk]; rfl) ?_
          (try k_unfold)
          (try dsimp only)
          cases wd with
          | false =>
            repeat' ((fail_if_success (with_reducible show Mine.TurnEnd ..)); (fail_if_success (with_reducible show wpAny _ _ (subscriptTail _ _ _ _) _ _ _)); walk_at "one step")
            rename News _ _ _ _ => N7
            refine sub_any (vs := cs.map fun k => Value.ref (nts.getD k 0)) (News.isList N7 (.tail _ (.tail _ (.tail _ (hrw))))) hz.1 (by omega) hr1 ?_
            (try k_unfold)
            (try dsimp only)
            repeat' ((fail_if_success (with_reducible show Mine.TurnEnd ..)); (fail_if_success (with_reducible show wpAny _ _ (subscriptTail _ _ _ _) _ _ _)); walk_at "one step")
            rename News _ _ _ _ => N7
            refine tup_at N7 (.tail _ (.tail _ (.tail _ (hr2)))) ?_
            (try k_unfold)
            (try dsimp only)
            repeat' ((fail_if_success (with_reducible show Mine.TurnEnd ..)); (fail_if_success (with_reducible show wpAny _ _ (call (Value.builtin "list.append") _) _ _ _)); walk_at "one step")
            rename Fr _ _ _ _ => F7
            rename News _ _ _ _ => N7
            refine due_append F7 (fun p hp => N7 p (.tail _ (hp))) hID hnw (by rw [strs_len hvs, List.length_map, List.length_take]; omega) ?_
            intro h9 F9 N9
            (try k_unfold)
            (try dsimp only)
            repeat' ((fail_if_success (with_reducible show Mine.TurnEnd ..)); walk_at "one step")
            refine hTn _ _ (TurnEnd.intro F9 N9 _ (fun _ h => h) (fun p hp => (List.mem_cons.mp hp).elim (fun e => e ▸ hDI) fun hp => hoff p (.tail _ hp)) ⟨_, _, rfl, due_snoc hvs ho ((due_none hlk).trans (by rw [hcg]; rfl)), ?z1, ?z2, ?z3, ?z4, ?z5, ?z6⟩)
            case z1 => k_dflt (first | exact rfl | exact hwd | exact hrows | exact hch | exact hhm | exact hcu | exact hoc | exact hdu | exact e1 | exact e2 | exact e3 | exact e4 | exact e5 | exact e6)
            case z2 => k_dflt (first | exact rfl | exact hwd | exact hrows | exact hch | exact hhm | exact hcu | exact hoc | exact hdu | exact e1 | exact e2 | exact e3 | exact e4 | exact e5 | exact e6)
            case z3 => k_dflt (first | exact rfl | exact hwd | exact hrows | exact hch | exact hhm | exact hcu | exact hoc | exact hdu | exact e1 | exact e2 | exact e3 | exact e4 | exact e5 | exact e6)
            case z4 => k_dflt (first | exact rfl | exact hwd | exact hrows | exact hch | exact hhm | exact hcu | exact hoc | exact hdu | exact e1 | exact e2 | exact e3 | exact e4 | exact e5 | exact e6)
            case z5 => k_dflt (first | exact rfl | exact hwd | exact hrows | exact hch | exact hhm | exact hcu | exact hoc | exact hdu | exact e1 | exact e2 | exact e3 | exact e4 | exact e5 | exact e6)
            case z6 => k_dflt (first | exact rfl | exact hwd | exact hrows | exact hch | exact hhm | exact hcu | exact hoc | exact hdu | exact e1 | exact e2 | exact e3 | exact e4 | exact e5 | exact e6)
          | true =>
            repeat' ((fail_if_success (with_reducible show Mine.TurnEnd ..)); (fail_if_success (with_reducible show wpAny _ _ (call (Value.builtin "list.append") _) _ _ _)); walk_at "one step")
            rename Fr _ _ _ _ => F7
            rename News _ _ _ _ => N7
            refine due_append F7 (fun p hp => N7 p (.tail _ (hp))) hID hnw (by rw [strs_len hvs, List.length_map, List.length_take]; omega) ?_
            intro h9 F9 N9
            (try k_unfold)
            (try dsimp only)
            repeat' ((fail_if_success (with_reducible show Mine.TurnEnd ..)); walk_at "one step")
            refine hTn _ _ (TurnEnd.intro F9 N9 _ (fun _ h => h) (fun p hp => (List.mem_cons.mp hp).elim (fun e => e ▸ hDI) fun hp => hoff p (.tail _ hp)) ⟨_, _, rfl, due_snoc hvs ho (due_none hlk), ?z1, ?z2, ?z3, ?z4, ?z5, ?z6⟩)
            case z1 => k_dflt (first | exact rfl | exact hwd | exact hrows | exact hch | exact hhm | exact hcu | exact hoc | exact hdu | exact e1 | exact e2 | exact e3 | exact e4 | exact e5 | exact e6)
            case z2 => k_dflt (first | exact rfl | exact hwd | exact hrows | exact hch | exact hhm | exact hcu | exact hoc | exact hdu | exact e1 | exact e2 | exact e3 | exact e4 | exact e5 | exact e6)
            case z3 => k_dflt (first | exact rfl | exact hwd | exact hrows | exact hch | exact hhm | exact hcu | exact hoc | exact hdu | exact e1 | exact e2 | exact e3 | exact e4 | exact e5 | exact e6)
            case z4 => k_dflt (first | exact rfl | exact hwd | exact hrows | exact hch | exact hhm | exact hcu | exact hoc | exact hdu | exact e1 | exact e2 | exact e3 | exact e4 | exact e5 | exact e6)
            case z5 => k_dflt (first | exact rfl | exact hwd | exact hrows | exact hch | exact hhm | exact hcu | exact hoc | exact hdu | exact e1 | exact e2 | exact e3 | exact e4 | exact e5 | exact e6)
            case z6 => k_dflt (first | exact rfl | exact hwd | exact hrows | exact hch | exact hhm | exact hcu | exact hoc | exact hdu | exact e1 | exact e2 | exact e3 | exact e4 | exact e5 | exact e6)
        | some v =>
          obtain ⟨q, hq, rfl⟩ := lookup_mem hlk
          obtain ⟨z, hqz, hzl⟩ := hD q hq
          rw [hqz] at hlk
          refine in_tupTab_eq (b := true) same_int (Nat.le_of_ble_eq_true rfl) N7 (TupTab.cons (TupTab.cons (TupTab.cons hE.tab _) _) _) (.head _) (key_obj WW 1 (nb.toNat : Int) _ _ 0) (by rw [mapK] at hlk; rw [hlk]; rfl) ?_
          (try k_unfold)
          (try dsimp only)
          repeat' ((fail_if_success (with_reducible show Mine.TurnEnd ..)); (fail_if_success (with_reducible show wpAny _ _ (subscriptTail _ _ _ _) _ _ _)); walk_at "one step")
          rename News _ _ _ _ => N7
          refine item_tup same_int (Nat.le_of_ble_eq_true rfl) N7 (TupTab.cons (TupTab.cons (TupTab.cons (TupTab.cons hE.tab _) _) _) _) (.head _) (key_obj WW 1 (nb.toNat : Int) _ _ 0) hlk ?_
          intro v9 hv9
          obtain ⟨tv9, rfl⟩ := hv9.str_inv
          (try k_unfold)
          (try dsimp only)
          repeat' ((fail_if_success (with_reducible show Mine.TurnEnd ..)); (fail_if_success (with_reducible show wpAny _ _ (call (Value.builtin "list.append") _) _ _ _)); walk_at "one step")
          rename Fr _ _ _ _ => F7
          rename News _ _ _ _ => N7
          refine due_append F7 (fun p hp => N7 p (.tail _ (.tail _ (hp)))) hID hnw (by rw [strs_len hvs, List.length_map, List.length_take]; omega) ?_
          intro h9 F9 N9
          (try k_unfold)
          (try dsimp only)
          repeat' ((fail_if_success (with_reducible show Mine.TurnEnd ..)); walk_at "one step")
          refine hTn _ _ (TurnEnd.intro F9 N9 _ (fun _ h => h) (fun p hp => (List.mem_cons.mp hp).elim (fun e => e ▸ hDI) fun hp => hoff p (.tail _ hp)) ⟨_, _, rfl, due_snoc hvs ho (due_some hlk), ?z1, ?z2, ?z3, ?z4, ?z5, ?z6⟩)
          case z1 => k_dflt (first | exact rfl | exact hwd | exact hrows | exact hch | exact hhm | exact hcu | exact hoc | exact hdu | exact e1 | exact e2 | exact e3 | exact e4 | exact e5 | exact e6)
          case z2 => k_dflt (first | exact rfl | exact hwd | exact hrows | exact hch | exact hhm | exact hcu | exact hoc | exact hdu | exact e1 | exact e2 | exact e3 | exact e4 | exact e5 | exact e6)
          case z3 => k_dflt (first | exact rfl | exact hwd | exact hrows | exact hch | exact hhm | exact hcu | exact hoc | exact hdu | exact e1 | exact e2 | exact e3 | exact e4 | exact e5 | exact e6)
          case z4 => k_dflt (first | exact rfl | exact hwd | exact hrows | exact hch | exact hhm | exact hcu | exact hoc | exact hdu | exact e1 | exact e2 | exact e3 | exact e4 | exact e5 | exact e6)
          case z5 => k_dflt (first | exact rfl | exact hwd | exact hrows | exact hch | exact hhm | exact hcu | exact hoc | exact hdu | exact e1 | exact e2 | exact e3 | exact e4 | exact e5 | exact e6)
          case z6 => k_dflt (first | exact rfl | exact hwd | exact hrows | exact hch | exact hhm | exact hcu | exact hoc | exact hdu | exact e1 | exact e2 | exact e3 | exact e4 | exact e5 | exact e6)
    · rintro m₁ nw h6 tk6 ⟨vs, kV, rfl, hvs, e1, e2, e3, e4, e5, e6⟩ F6 N6
      rw [hbl, List.take_length] at hvs
      exact hMd _ ⟨h6, tk6, m₁, _, rfl, F6, N6, vs, kV, hvs, .head _, hE.mono (fun p h => .tail _ h), e5, e6⟩
  clear F1 N2 hE hwd hrows hch hhm hoc hdu hnw
  intro h tk m nw F1 N1 hst9
  obtain ⟨vs, kU, hvs, hdm, hE, hoc, hdu⟩ := hst9
  rw [map_has hoc, map_has hdu] at F1
  with_reducible refine law_segD S1.heap S1.heap.objs.size S1 (St14 WW S1.heap.objs.size wd hm D CH R xF NL nts cs nR b tb DU vs kU) ?_ ?_
  · intro Md hMd
    obtain ⟨oc, hcm, hcd⟩ := hE.cell
    have N1c := news_dup N1 hcm
    clear N1
    obtain ⟨dF, NL2, vs2, n6, n7, uv, cv, r4, r5, r6, r7, q1, q2, q3, q4, q5, q6, q7, u1, u2, u3, u4, u5, u6, u7, mx, md, mn, hvs2, hc', hu'⟩ := hE.font
    repeat' ((fail_if_success (with_reducible show Mine.LawD ..)); (fail_if_success (with_reducible show wpAny _ _ (eval (PySem.Expr.ListComp ..) _) _ _ _)); walk_at "one step")
    k_dflt (refine ListComp_W (_F₀ := by k_asm) (by with_unfolding_all rfl) (by decide) (by rfl) (by decide) (by rfl) ?_)
    repeat' ((fail_if_success (with_reducible show wpAny _ _ (pyIter _) _ _ _)); walk_at "one step")
    rename Fr _ _ _ _ => F2
    rename News _ _ _ _ => N2
    have hbl : b.size = ks.length := by rw [← hb]; simp [KBw.bInts]
    refine CompW.bytes rfl F2 N2 (by rw [hbl, sizeLine_eq]; omega) ?_
    intro g2
    refine rest_strs (ks.map (dueT wd (umOf hm D) cs)) (by rw [List.length_map, hbl]) ?_ ?_
    · rintro i v r ys I oI Cc oC Dd m2 h3 tk3 E' hi3 ⟨nb, ub, hnb, rfl⟩ hr hC hx F3 N3 off3 ne3
      (try k_unfold)
      (try dsimp only)
      repeat' ((fail_if_success (with_reducible show LeaveK ..)); (fail_if_success (with_reducible show wpAny _ _ (call (Value.ref _) _) _ _ _)); (fail_if_success (with_reducible show LCg.CompEnd ..)); walk_at "one step")
      rename News _ _ _ _ => N4
      have ho := byte_at hb hnb
      have hz := hk0 _ (List.mem_of_getElem? ho)
      have hrr : r = dueT wd (umOf hm D) cs (nb.toNat : Int) := by
        rw [List.getElem?_map, ho] at hr
        exact (Option.some.inj hr).symm
      subst hrr
      with_reducible refine' text_use ?b1 ?b2 N4 ?b4 ?b5 ?c1 ?c2 ?c3 ?c4 ?c5 ?c6 ?r1 ?r2 ?r3 ?r4 ?d ?u ?_
      case b1 => k_asm
      case b2 => k_asm
      case b4 => k_asm
      case b5 => k_asm
      case c1 => exact hD.map hm
      case c2 => exact hcs
      case c3 => exact hz.1
      case c4 => exact hz.2
      case c5 => exact hE.font.mono (fun p h => .tail _ (.tail _ (.tail _ (.tail _ (.tail _ h)))))
      case c6 => exact .head _
      case r1 => exact rfl
      case r2 => exact rfl
      case r3 => exact rfl
      case r4 => exact rfl
      case d => exact Nat.le_of_ble_eq_true rfl
      case u => exact Nat.le_of_ble_eq_true rfl
      intro t6 h6 tk6 F6 N6
      (try k_unfold)
      (try dsimp only)
      repeat' ((fail_if_success (with_reducible show LeaveK ..)); (fail_if_success (with_reducible show wpAny _ _ (call (Value.ref _) _) _ _ _)); (fail_if_success (with_reducible show LCg.CompEnd ..)); walk_at "one step")
      exact LCg.CompEnd.intro F6 N6 _ (fun _ h => .tail _ h) off3 trivial (TxEl.mk rfl rfl rfl)
    · intro ys hys
      intro D7 h7 tk7 F7 N7 o7
      (try k_unfold)
      (try dsimp only)
      repeat' ((fail_if_success (with_reducible show Mine.LawD ..)); (fail_if_success (with_reducible show wpAny _ _ (compareOp _ _ _) _ _ _)); walk_at "one step")
      rename Fr _ _ _ _ => F8
      rename News _ _ _ _ => N8
      refine ne_strs (News.isList N8 (.head _)) (News.isList N8 (.tail _ (.tail _ hdm))) hys hvs (fun x hx => ?_) (Nat.le_of_ble_eq_true rfl) ?_
      · obtain ⟨o, ho, rfl⟩ := List.mem_map.mp hx
        exact due_ok hD hcs (hk0 o ho).2
      (try k_unfold)
      (try dsimp only)
      repeat' ((fail_if_success (with_reducible show Mine.LawD ..)); walk_at "one step")
      refine hMd _ ⟨_, _, _, nw, rfl, F8, fun p hp => N8 p (.tail _ (.tail _ hp)), hdm, hE, ?z1, ?z2⟩
      case z1 => k_dflt (first | exact rfl | exact hwd | exact hrows | exact hch | exact hhm | exact hcu | exact hoc | exact hdu | exact e1 | exact e2 | exact e3 | exact e4 | exact e5 | exact e6)
      case z2 => k_dflt (first | exact rfl | exact hwd | exact hrows | exact hch | exact hhm | exact hcu | exact hoc | exact hdu | exact e1 | exact e2 | exact e3 | exact e4 | exact e5 | exact e6)
  clear F1 N1 hE hoc hdu hdm
  intro h tk m nw F1 N1 hst9
  obtain ⟨hdm, hE, hoc, hdu⟩ := hst9
  rw [map_has hoc, map_has hdu] at F1
  obtain ⟨oc, hcm, hcd⟩ := hE.cell
  have N1c := news_dup N1 hcm
  clear N1
  repeat' ((fail_if_success (with_reducible show wpAny _ _ (call (Value.ref _) _) _ _ _)); walk_at "one step")
  with_reducible refine' stext_use ?b1 ?b2 ?b3 ?b4 ?b5 ?c1 ?c2 ?c3 ?c4 ?c5 ?c6 ?r1 ?r2 ?r3 ?r4 ?d ?u ?_
  case b1 => k_asm
  case b2 => k_asm
  case b3 => k_asm
  case b4 => k_asm
  case b5 => k_asm
  case c1 => exact hb
  case c2 => omega
  case c3 => exact hk0
  case c4 => exact hD.mapU hm
  case c5 => exact hcs
  case c6 => exact hE.font.mono (fun p h => .tail _ h)
  case r1 => exact rfl
  case r2 => exact rfl
  case r3 => exact rfl
  case r4 => exact rfl
  case d => exact Nat.le_of_ble_eq_true rfl
  case u => exact Nat.le_of_ble_eq_true rfl
  intro t7 h7 tk7 F7 N7
  (try k_unfold)
  (try dsimp only)
  repeat' ((fail_if_success (with_reducible show wpAny _ _ (call (Value.ref _) _) _ _ _)); (fail_if_success (with_reducible show wpAny _ _ (call (Value.builtin "str.join") _) _ _ _)); walk_at "one step")
  refine join_listW (News.isList N7 (.tail _ hdm)) hvs (by decide) (due_weight (hD.mapU hm) hcs (by omega) hk0) ?_
  intro tj kj
  (try k_unfold)
  (try dsimp only)
  repeat' ((fail_if_success (with_reducible show wpAny _ _ (call (Value.ref _) _) _ _ _)); (fail_if_success (with_reducible show wpAny _ _ (compareOp CmpOp.Eq _ _) _ _ _)); walk_at "one step")
  refine eq_str_of rfl ?_
  (try k_unfold)
  (try dsimp only)
  repeat' ((fail_if_success (with_reducible show wpAny _ _ (call (Value.ref _) _) _ _ _)); (fail_if_success (with_reducible show wpAny _ _ (compareOp CmpOp.Eq _ _) _ _ _)); walk_at "one step")
  rename KBw.bInts (KBy.picked _ _ _) = _ => kb1
  with_reducible refine' stext_use ?b1 ?b2 ?b3 ?b4 ?b5 ?c1 ?c2 ?c3 ?c4 ?c5 ?c6 ?r1 ?r2 ?r3 ?r4 ?d ?u ?_
  case b1 => k_asm
  case b2 => k_asm
  case b3 => k_asm
  case b4 => k_asm
  case b5 => k_asm
  case c1 => exact kb1
  case c2 => (rw [List.length_take]; omega)
  case c3 => exact fun o ho => hk0 o (List.mem_of_mem_take ho)
  case c4 => exact hD.mapU hm
  case c5 => exact hcs
  case c6 => exact hE.font.mono (fun p h => .tail _ h)
  case r1 => exact rfl
  case r2 => exact rfl
  case r3 => exact rfl
  case r4 => exact rfl
  case d => exact Nat.le_of_ble_eq_true rfl
  case u => exact Nat.le_of_ble_eq_true rfl
  intro t8 h8 tk8 F8 N8
  (try k_unfold)
  (try dsimp only)
  repeat' ((fail_if_success (with_reducible show wpAny _ _ (call (Value.ref _) _) _ _ _)); (fail_if_success (with_reducible show wpAny _ _ (binaryOp Operator.Add _ _) _ _ _)); walk_at "one step")
  rename KBw.bInts (KBy.picked _ _ _) = _ => kb2
  rw [List.take_of_length_le (by rw [List.length_drop]; exact Nat.le_refl _)] at kb2
  with_reducible refine' stext_use ?b1 ?b2 ?b3 ?b4 ?b5 ?c1 ?c2 ?c3 ?c4 ?c5 ?c6 ?r1 ?r2 ?r3 ?r4 ?d ?u ?_
  case b1 => k_asm
  case b2 => k_asm
  case b3 => k_asm
  case b4 => k_asm
  case b5 => k_asm
  case c1 => exact kb2
  case c2 => (rw [List.length_drop]; omega)
  case c3 => exact fun o ho => hk0 o (List.mem_of_mem_drop ho)
  case c4 => exact hD.mapU hm
  case c5 => exact hcs
  case c6 => exact hE.font.mono (fun p h => .tail _ h)
  case r1 => exact rfl
  case r2 => exact rfl
  case r3 => exact rfl
  case r4 => exact rfl
  case d => exact Nat.le_of_ble_eq_true rfl
  case u => exact Nat.le_of_ble_eq_true rfl
  intro t9 h9 tk9 F9 N9
  (try k_unfold)
  (try dsimp only)
  have hw4 : ∀ (l : List Int), (∀ o ∈ l, o ∈ ks) → (Txt.join (Str.ofString "") (l.map (dueT wd (umOf hm D) cs))).length ≤ 4 * l.length := fun l hl => by
    have z := join_len (ss := l.map (dueT wd (umOf hm D) cs)) (fun x hx => by
      obtain ⟨o, ho, rfl⟩ := List.mem_map.mp hx
      exact dueT_len (hD.mapU hm) hcs (hk0 o (hl o ho)).2)
    rw [List.length_map] at z
    exact z
  repeat' ((fail_if_success (with_reducible show wpAny _ _ (call (Value.ref _) _) _ _ _)); (fail_if_success (with_reducible show wpAny _ _ (binaryOp Operator.Add _ _) _ _ _)); walk_at "one step")
  refine add_str_of (z := Txt.join (Str.ofString "") (ks.map (dueT wd (umOf hm D) cs))) (by rw [List.map_take, List.map_drop]; exact join_cut _ _) (by
    have z1 := hw4 (ks.take (clipAt ks.length 2)) (fun o ho => List.mem_of_mem_take ho)
    have z2 := hw4 (ks.drop (clipAt ks.length 2)) (fun o ho => List.mem_of_mem_drop ho)
    rw [List.length_take] at z1
    rw [List.length_drop] at z2
    rw [sizeLine_eq]
    omega) ?_
  intro ta ka
  (try k_unfold)
  (try dsimp only)
  repeat' ((fail_if_success (with_reducible show wpAny _ _ (call (Value.builtin "str.join") _) _ _ _)); walk_at "one step")
  refine join_listW (News.isList N9 (.tail _ hdm)) hvs (by decide) (due_weight (hD.mapU hm) hcs (by omega) hk0) ?_
  intro tj2 kj2
  (try k_unfold)
  (try dsimp only)
  repeat' ((fail_if_success (with_reducible show wpAny _ _ (compareOp CmpOp.Eq _ _) _ _ _)); walk_at "one step")
  refine eq_str_of rfl ?_
  (try k_unfold)
  (try dsimp only)
  refine goodW_bool F9 (by with_reducible assumption) (raisesW_false ?_) ?_
  · wrow_none_raised
  · exact post_true _
  )
end
theorem PySem.Challenge.cw_xw0248_01_holds : PySem.Challenge.rw_xw0248_01.Holds :=
  Mine.back Mine.law_holds
