import PyProof.Rows.All
import Wide.All
import OpenK.AllK
import Wide.FinOn
import Lean
import PySem.Challenge.RW_no0265_01
open PySem PySem.W PyProof.Rows PySem.Calls
set_option Elab.async false
set_option linter.unusedVariables false
set_option linter.unusedSimpArgs false
set_option maxRecDepth 1000000
set_option maxHeartbeats 8000000
namespace Mine

-- the part T1
noncomputable def topRunT (tb : String → Option Builtin) (p : Program) (w : World) (n₀ : Nat) (ann : Option Value) : Nat → SharedT → Thread → Option SharedT
  | 0, _, _ => none
  | n + 1, s, t => match through t with
    | true => some s
    | false => match stepOk n₀ ann t with
      | false => none
      | true => match stepT (denote tb) p w s t with
        | some (s', t') => topRunT tb p w n₀ ann n s' t'
        | none => none
theorem topRun_of {tb : String → Option Builtin} {p : Program} {w : World} {n₀ : Nat} {ann : Option Value} : ∀ {n : Nat} {s s' : SharedT} {t : Thread}, topRunT tb p w n₀ ann n s t = some s' → topRun tb p w n₀ ann n s.abs t = some s'.abs
  | 0, _, _, _, h => by cases h
  | n + 1, s, s', t, h => by
    unfold topRunT at h
    unfold topRun
    cases he : through t with
    | true => rw [he] at h; cases h; rfl
    | false =>
      rw [he] at h
      cases hk : stepOk n₀ ann t with
      | false => rw [hk] at h; cases h
      | true =>
        rw [hk] at h
        cases hs : stepT (denote tb) p w s t with
        | none => rw [hs] at h; cases h
        | some r => obtain ⟨s₂, t₂⟩ := r; rw [hs] at h; rw [stepT_spec hs]; exact topRun_of h
noncomputable def evens : List Obj → List Obj
  | [] => []
  | [a] => [a]
  | a :: _ :: r => a :: evens r
noncomputable def odds : List Obj → List Obj
  | [] => []
  | [_] => []
  | _ :: b :: r => b :: odds r
noncomputable def treeOf : Nat → List Obj → BT
  | 0, _ => .nil
  | _ + 1, [] => .nil
  | n + 1, o :: r => .node o (treeOf n (evens r)) (treeOf n (odds r))

-- the part H1
noncomputable def defParts : Option Stmt → Arguments × List Stmt × Scope
  | some (.FunctionDef _ a b _ _ _ s ..) => (a, b, s)
  | _ => (⟨[], [], none, [], [], none, []⟩, [], ⟨.module, [], false, false, []⟩)
noncomputable def fs (i : Nat) : Arguments × List Stmt × Scope := defParts (PySem.Challenge.pw_no0265_01.main.body.drop i).head?
noncomputable def inCls (j : Nat) : Option Stmt → Option Stmt
  | some (.ClassDef _ _ _ b ..) => (b.drop j).head?
  | _ => none
noncomputable def cs (i j : Nat) : Arguments × List Stmt × Scope := defParts (inCls j (PySem.Challenge.pw_no0265_01.main.body.drop i).head?)
noncomputable def o1 (P : Params) : Obj := ⟨(.type "dict"), none, (.dict #[(DictEntry.mk (PyData.keyHash P "builtins") (.str "builtins" 162) (.ref 4)), (DictEntry.mk (PyData.keyHash P "__main__") (.str "__main__" 163) (.ref 5))] 2), #[]⟩
noncomputable def o2 (P : Params) : Obj := ⟨.none, none, (.dict #[(DictEntry.mk (PyData.keyHash P "type.__subclasses__.Exception.0") (.str "type.__subclasses__.Exception.0" 214) (.int 31 0)), (DictEntry.mk (PyData.keyHash P "type.__subclasses__.Exception.n") (.str "type.__subclasses__.Exception.n" 215) (.int 1 0))] 2), #[]⟩
noncomputable def o3 (P : Params) : Obj := ⟨(.type "dict"), none, (.dict #[(DictEntry.mk (PyData.keyHash P "__name__") (.str "__name__" 165) (.str "law_no0265_01" 806)), (DictEntry.mk (PyData.keyHash P "__doc__") (.str "__doc__" 166) .none), (DictEntry.mk (PyData.keyHash P "__package__") (.str "__package__" 167) .none), (DictEntry.mk (PyData.keyHash P "__loader__") (.str "__loader__" 168) (.builtin "__main__.__loader__#opaque")), (DictEntry.mk (PyData.keyHash P "__spec__") (.str "__spec__" 169) .none), (DictEntry.mk (PyData.keyHash P "__annotations__") (.str "__annotations__" 170) (.ref 6)), (DictEntry.mk (PyData.keyHash P "__builtins__") (.str "__builtins__" 171) (.ref 4)), (DictEntry.mk (PyData.keyHash P "__file__") (.str "__file__" 173) (.str "/claim/cut.py" 172)), (DictEntry.mk (PyData.keyHash P "__cached__") (.str "__cached__" 174) .none), (DictEntry.mk (PyData.keyHash P "F77Error") (.str "F77Error" 217) (.ref 31)), (DictEntry.mk (PyData.keyHash P "RunFault") (.str "RunFault" 233) (.ref 44)), (DictEntry.mk (PyData.keyHash P "fit_int") (.str "fit_int" 244) (.ref 53)), (DictEntry.mk (PyData.keyHash P "int_add") (.str "int_add" 253) (.ref 60)), (DictEntry.mk (PyData.keyHash P "int_sub") (.str "int_sub" 262) (.ref 67)), (DictEntry.mk (PyData.keyHash P "int_mul") (.str "int_mul" 271) (.ref 74)), (DictEntry.mk (PyData.keyHash P "cut_quotient") (.str "cut_quotient" 280) (.ref 81)), (DictEntry.mk (PyData.keyHash P "int_div") (.str "int_div" 289) (.ref 88)), (DictEntry.mk (PyData.keyHash P "inverse_power") (.str "inverse_power" 297) (.ref 95)), (DictEntry.mk (PyData.keyHash P "int_power") (.str "int_power" 308) (.ref 102)), (DictEntry.mk (PyData.keyHash P "order_of") (.str "order_of" 316) (.ref 109)), (DictEntry.mk (PyData.keyHash P "holds") (.str "holds" 324) (.ref 116)), (DictEntry.mk (PyData.keyHash P "int_binary") (.str "int_binary" 335) (.ref 123)), (DictEntry.mk (PyData.keyHash P "logic_binary") (.str "logic_binary" 346) (.ref 130)), (DictEntry.mk (PyData.keyHash P "INTEGER") (.str "INTEGER" 348) (.int 0 347)), (DictEntry.mk (PyData.keyHash P "REAL") (.str "REAL" 350) (.int 1 349)), (DictEntry.mk (PyData.keyHash P "DOUBLE") (.str "DOUBLE" 352) (.int 2 351)), (DictEntry.mk (PyData.keyHash P "COMPLEX") (.str "COMPLEX" 354) (.int 3 353)), (DictEntry.mk (PyData.keyHash P "LOGICAL") (.str "LOGICAL" 356) (.int 4 355)), (DictEntry.mk (PyData.keyHash P "CHARACTER") (.str "CHARACTER" 358) (.int 5 357)), (DictEntry.mk (PyData.keyHash P "NOUGHT") (.str "NOUGHT" 363) (.ref 131)), (DictEntry.mk (PyData.keyHash P "GUARD") (.str "GUARD" 365) (.int 8 364)), (DictEntry.mk (PyData.keyHash P "EXACT_POWER") (.str "EXACT_POWER" 367) (.int 64 366)), (DictEntry.mk (PyData.keyHash P "count_digits") (.str "count_digits" 375) (.ref 138)), (DictEntry.mk (PyData.keyHash P "strip_zeros") (.str "strip_zeros" 383) (.ref 145)), (DictEntry.mk (PyData.keyHash P "round_digits") (.str "round_digits" 396) (.ref 152)), (DictEntry.mk (PyData.keyHash P "round_real") (.str "round_real" 407) (.ref 159)), (DictEntry.mk (PyData.keyHash P "exact_add") (.str "exact_add" 416) (.ref 166)), (DictEntry.mk (PyData.keyHash P "exact_mul") (.str "exact_mul" 424) (.ref 173)), (DictEntry.mk (PyData.keyHash P "real_neg") (.str "real_neg" 431) (.ref 180)), (DictEntry.mk (PyData.keyHash P "quotient") (.str "quotient" 445) (.ref 187)), (DictEntry.mk (PyData.keyHash P "real_add") (.str "real_add" 457) (.ref 194)), (DictEntry.mk (PyData.keyHash P "real_sub") (.str "real_sub" 469) (.ref 201)), (DictEntry.mk (PyData.keyHash P "real_mul") (.str "real_mul" 481) (.ref 208)), (DictEntry.mk (PyData.keyHash P "real_div") (.str "real_div" 493) (.ref 215)), (DictEntry.mk (PyData.keyHash P "real_compare") (.str "real_compare" 502) (.ref 222)), (DictEntry.mk (PyData.keyHash P "real_of_int") (.str "real_of_int" 511) (.ref 229)), (DictEntry.mk (PyData.keyHash P "real_to_int") (.str "real_to_int" 521) (.ref 236)), (DictEntry.mk (PyData.keyHash P "raised") (.str "raised" 531) (.ref 243)), (DictEntry.mk (PyData.keyHash P "real_power") (.str "real_power" 543) (.ref 250)), (DictEntry.mk (PyData.keyHash P "digits_of") (.str "digits_of" 551) (.ref 257)), (DictEntry.mk (PyData.keyHash P "real_binary") (.str "real_binary" 564) (.ref 264)), (DictEntry.mk (PyData.keyHash P "ONE") (.str "ONE" 571) (.ref 267)), (DictEntry.mk (PyData.keyHash P "EXACT_COMPLEX_POWER") (.str "EXACT_COMPLEX_POWER" 573) (.int 16 572)), (DictEntry.mk (PyData.keyHash P "round_parts") (.str "round_parts" 582) (.ref 274)), (DictEntry.mk (PyData.keyHash P "complex_add") (.str "complex_add" 592) (.ref 281)), (DictEntry.mk (PyData.keyHash P "complex_neg") (.str "complex_neg" 599) (.ref 288)), (DictEntry.mk (PyData.keyHash P "complex_sub") (.str "complex_sub" 609) (.ref 295)), (DictEntry.mk (PyData.keyHash P "exact_product") (.str "exact_product" 618) (.ref 302)), (DictEntry.mk (PyData.keyHash P "complex_mul") (.str "complex_mul" 628) (.ref 309)), (DictEntry.mk (PyData.keyHash P "complex_div") (.str "complex_div" 642) (.ref 316)), (DictEntry.mk (PyData.keyHash P "guarded_product") (.str "guarded_product" 653) (.ref 323)), (DictEntry.mk (PyData.keyHash P "complex_raised") (.str "complex_raised" 664) (.ref 330)), (DictEntry.mk (PyData.keyHash P "complex_power") (.str "complex_power" 675) (.ref 337)), (DictEntry.mk (PyData.keyHash P "complex_binary") (.str "complex_binary" 688) (.ref 344)), (DictEntry.mk (PyData.keyHash P "collate") (.str "collate" 699) (.ref 351)), (DictEntry.mk (PyData.keyHash P "text_binary") (.str "text_binary" 710) (.ref 358)), (DictEntry.mk (PyData.keyHash P "binary") (.str "binary" 721) (.ref 365)), (DictEntry.mk (PyData.keyHash P "unary") (.str "unary" 731) (.ref 372)), (DictEntry.mk (PyData.keyHash P "real_as") (.str "real_as" 742) (.ref 379)), (DictEntry.mk (PyData.keyHash P "convert") (.str "convert" 752) (.ref 386)), (DictEntry.mk (PyData.keyHash P "Limits") (.str "Limits" 805) (.ref 404)), (DictEntry.mk (PyData.keyHash P "_law_pick") (.str "_law_pick" 816) (.ref 415)), (DictEntry.mk (PyData.keyHash P "_law_round") (.str "_law_round" 834) (.ref 423)), (DictEntry.mk (PyData.keyHash P "_law_fraction") (.str "_law_fraction" 841) (.ref 430)), (DictEntry.mk (PyData.keyHash P "_law_real") (.str "_law_real" 855) (.ref 437)), (DictEntry.mk (PyData.keyHash P "_law_heard") (.str "_law_heard" 867) (.ref 444)), (DictEntry.mk (PyData.keyHash P "_law_cut") (.str "_law_cut" 875) (.ref 451)), (DictEntry.mk (PyData.keyHash P "_law_fit") (.str "_law_fit" 883) (.ref 458)), (DictEntry.mk (PyData.keyHash P "_law_whole") (.str "_law_whole" 893) (.ref 465)), (DictEntry.mk (PyData.keyHash P "_law_relations") (.str "_law_relations" 900) (.ref 472)), (DictEntry.mk (PyData.keyHash P "_law_order") (.str "_law_order" 912) (.ref 479)), (DictEntry.mk (PyData.keyHash P "_law_converted") (.str "_law_converted" 926) (.ref 486)), (DictEntry.mk (PyData.keyHash P "law") (.str "law" 960) (.ref 493))] 83), #[]⟩
noncomputable def o9 (P : Params) : Obj := ⟨(.type "code"), none, (.fields #[(.str "<module>" 176), (.str "<module>" 177), (.str "/claim/cut.py" 178), (.int 1 0), (.int 0 0), (.int 0 0), (.int 0 0), (.int 0 0), (.ref 7), (.bool Bool.false), (.int 175 0), (.ref 8), .none, .none, .none, .none, (.int 179 0), (.int 1 0), (.str "/claim/cut.py" 180)]), #[]⟩
noncomputable def o10 (P : Params) : Obj := ⟨(.type "frame"), none, .plain, #[(some (.ref 9)), (some (.ref 3)), (some (.ref 3)), none, (some (.str "__main__" 164)), none, (some (.ref 0))]⟩
noncomputable def o12 (P : Params) : Obj := ⟨.none, none, (.fields #[(.int 2 0), (.int 0 0), (.ref 20), (.int 7 0), (.int 0 0), (.ref 40), (.int 10 0), (.int 0 0), (.ref 52), (.int 15 0), (.int 0 0), (.ref 59), (.int 17 0), (.int 0 0), (.ref 66), (.int 19 0), (.int 0 0), (.ref 73), (.int 21 0), (.int 0 0), (.ref 80), (.int 24 0), (.int 0 0), (.ref 87), (.int 28 0), (.int 0 0), (.ref 94), (.int 34 0), (.int 0 0), (.ref 101), (.int 43 0), (.int 0 0), (.ref 108), (.int 47 0), (.int 0 0), (.ref 115), (.int 61 0), (.int 0 0), (.ref 122), (.int 73 0), (.int 0 0), (.ref 129), (.int 93 0), (.int 0 0), (.ref 137), (.int 103 0), (.int 0 0), (.ref 144), (.int 110 0), (.int 0 0), (.ref 151), (.int 120 0), (.int 0 0), (.ref 158), (.int 128 0), (.int 0 0), (.ref 165), (.int 131 0), (.int 0 0), (.ref 172), (.int 133 0), (.int 0 0), (.ref 179), (.int 135 0), (.int 0 0), (.ref 186), (.int 142 0), (.int 0 0), (.ref 193), (.int 145 0), (.int 0 0), (.ref 200), (.int 148 0), (.int 0 0), (.ref 207), (.int 151 0), (.int 0 0), (.ref 214), (.int 156 0), (.int 0 0), (.ref 221), (.int 161 0), (.int 0 0), (.ref 228), (.int 163 0), (.int 0 0), (.ref 235), (.int 169 0), (.int 0 0), (.ref 242), (.int 179 0), (.int 0 0), (.ref 249), (.int 186 0), (.int 0 0), (.ref 256), (.int 188 0), (.int 0 0), (.ref 263), (.int 205 0), (.int 0 0), (.ref 273), (.int 207 0), (.int 0 0), (.ref 280), (.int 209 0), (.int 0 0), (.ref 287), (.int 211 0), (.int 0 0), (.ref 294), (.int 213 0), (.int 0 0), (.ref 301), (.int 216 0), (.int 0 0), (.ref 308), (.int 218 0), (.int 0 0), (.ref 315), (.int 226 0), (.int 0 0), (.ref 322), (.int 230 0), (.int 0 0), (.ref 329), (.int 242 0), (.int 0 0), (.ref 336), (.int 247 0), (.int 0 0), (.ref 343), (.int 266 0), (.int 0 0), (.ref 350), (.int 269 0), (.int 0 0), (.ref 357), (.int 273 0), (.int 0 0), (.ref 364), (.int 285 0), (.int 0 0), (.ref 371), (.int 295 0), (.int 0 0), (.ref 378), (.int 302 0), (.int 0 0), (.ref 385), (.int 315 0), (.int 0 0), (.ref 392), (.int 327 0), (.int 0 0), (.ref 414), (.int 329 0), (.int 0 0), (.ref 422), (.int 352 0), (.int 0 0), (.ref 429), (.int 354 0), (.int 0 0), (.ref 436), (.int 362 0), (.int 0 0), (.ref 443), (.int 371 0), (.int 0 0), (.ref 450), (.int 373 0), (.int 0 0), (.ref 457), (.int 375 0), (.int 0 0), (.ref 464), (.int 387 0), (.int 0 0), (.ref 471), (.int 389 0), (.int 0 0), (.ref 478), (.int 397 0), (.int 0 0), (.ref 485), (.int 410 0), (.int 0 0), (.ref 492)]), #[]⟩
noncomputable def o13 (P : Params) : Obj := ⟨(.type "code"), none, (.fields #[(.str "<module>" 182), (.str "<module>" 183), (.str "/claim/cut.py" 184), (.int 1 0), (.int 0 0), (.int 0 0), (.int 0 0), (.int 0 0), (.ref 11), (.bool Bool.false), (.int 181 0), (.ref 12), .none, .none, .none, .none, (.int 185 0), (.int 1 0), (.str "/claim/cut.py" 186)]), #[]⟩
noncomputable def o14 (P : Params) : Obj := ⟨(.type "frame"), none, .plain, #[(some (.ref 13)), (some (.ref 3)), (some (.ref 3)), none, (some (.str "__main__" 164)), none, (some (.ref 0))]⟩
noncomputable def o15 (P : Params) : Obj := ⟨(.type "tuple"), none, (.seq #[(.type "Exception")] 0), #[]⟩
noncomputable def o16 (P : Params) : Obj := ⟨(.type "builtin_function_or_method"), none, (.fields #[(.builtin "type.__prepare__"), (.type "type")]), #[]⟩
noncomputable def o17 (P : Params) : Obj := ⟨(.type "dict"), none, (.dict #[(DictEntry.mk (PyData.keyHash P "__module__") (.str "__module__" 196) (.str "f77.errors" 187)), (DictEntry.mk (PyData.keyHash P "__qualname__") (.str "__qualname__" 198) (.str "F77Error" 197)), (DictEntry.mk (PyData.keyHash P "__firstlineno__") (.str "__firstlineno__" 200) (.int 2 199)), (DictEntry.mk (PyData.keyHash P "__init__") (.str "__init__" 208) (.ref 28)), (DictEntry.mk (PyData.keyHash P "__static_attributes__") (.str "__static_attributes__" 210) (.ref 29))] 5), #[]⟩
noncomputable def o20 (P : Params) : Obj := ⟨(.type "code"), none, (.fields #[(.str "F77Error" 191), (.str "F77Error" 192), (.str "/claim/cut.py" 193), (.int 2 0), (.int 0 0), (.int 0 0), (.int 0 0), (.int 0 0), (.ref 18), (.bool Bool.false), (.int 181 0), (.ref 19), .none, .none, .none, .none, (.int 194 0), (.int 2 0), (.str "/claim/cut.py" 195)]), #[]⟩
noncomputable def o21 (P : Params) : Obj := ⟨(.type "frame"), none, .plain, #[(some (.ref 20)), (some (.ref 3)), (some (.ref 17)), none, (some (.str "f77.errors" 187)), none, (some (.ref 0))]⟩
noncomputable def o22 (P : Params) : Obj := ⟨(.type "tuple"), none, (.seq #[] 0), #[]⟩
noncomputable def o24 (P : Params) : Obj := ⟨(.type "tuple"), none, (.seq #[(.str "self" 204), (.str "text" 205)] 0), #[]⟩
noncomputable def o25 (P : Params) : Obj := ⟨(.type "tuple"), none, (.seq #[] 0), #[]⟩
noncomputable def o26 (P : Params) : Obj := ⟨.none, none, .func (FuncData.mk "__init__" "F77Error.__init__" (cs 1 0).1 (.stmts (cs 1 0).2.1) (cs 1 0).2.2 0 [] .none .none .none .none none .none .none 0), #[]⟩
noncomputable def o27 (P : Params) : Obj := ⟨(.type "code"), none, (.fields #[(.str "__init__" 201), (.str "F77Error.__init__" 202), (.str "/claim/cut.py" 203), (.int 4 0), (.int 2 0), (.int 0 0), (.int 0 0), (.int 3 0), (.ref 22), (.bool Bool.true), (.int 181 0), (.ref 23), .none, (.ref 24), (.ref 25), (.ref 26), (.int 206 0), (.int 4 0), (.str "/claim/cut.py" 207)]), #[]⟩
noncomputable def o28 (P : Params) : Obj := ⟨(.type "function"), none, .func (FuncData.mk "__init__" "F77Error.__init__" (cs 1 0).1 (.stmts (cs 1 0).2.1) (cs 1 0).2.2 3 [] .none .none .none (.str "f77.errors" 187) none (.ref 27) .none 0), #[]⟩
noncomputable def o29 (P : Params) : Obj := ⟨(.type "tuple"), none, (.seq #[(.str "text" 209)] 0), #[]⟩
noncomputable def o30 (P : Params) : Obj := ⟨(.type "dict"), none, (.dict #[(DictEntry.mk (PyData.keyHash P "__module__") (.str "__module__" 196) (.str "f77.errors" 187)), (DictEntry.mk (PyData.keyHash P "__firstlineno__") (.str "__firstlineno__" 200) (.int 2 199)), (DictEntry.mk (PyData.keyHash P "__init__") (.str "__init__" 208) (.ref 28)), (DictEntry.mk (PyData.keyHash P "__static_attributes__") (.str "__static_attributes__" 210) (.ref 29)), (DictEntry.mk (PyData.keyHash P "__weakref__") (.str "__weakref__" 212) (.ref 32)), (DictEntry.mk (PyData.keyHash P "__doc__") (.str "__doc__" 213) .none)] 3), #[]⟩
noncomputable def o31 (P : Params) : Obj := ⟨(.type "type"), none, (.cls (PySem.ClassData.mk "F77Error" [(.type "Exception")] [(.ref 31), (.type "Exception"), (.type "BaseException"), (.type "object")] 30 "F77Error" Bool.true [] [(.ref 44)] Bool.false none Bool.false)), #[(some (.ref 15)), none, (some (.str "F77Error" 189)), (some (.str "F77Error" 197)), (some (.builtin "Exception.__new__")), (some (.bool Bool.true))]⟩
noncomputable def o32 (P : Params) : Obj := ⟨(.type "getset_descriptor"), none, (.fields #[(.str "__weakref__" 211), (.ref 31), (.builtin "ExceptionGroup.__weakref__"), .none]), #[]⟩
noncomputable def o34 (P : Params) : Obj := ⟨(.type "builtin_function_or_method"), none, (.fields #[(.builtin "object.__init_subclass__"), (.ref 31)]), #[]⟩
noncomputable def o35 (P : Params) : Obj := ⟨(.type "tuple"), none, (.seq #[(.ref 31)] 0), #[]⟩
noncomputable def o36 (P : Params) : Obj := ⟨(.type "builtin_function_or_method"), none, (.fields #[(.builtin "type.__prepare__"), (.type "type")]), #[]⟩
noncomputable def o37 (P : Params) : Obj := ⟨(.type "dict"), none, (.dict #[(DictEntry.mk (PyData.keyHash P "__module__") (.str "__module__" 225) (.str "f77.errors" 187)), (DictEntry.mk (PyData.keyHash P "__qualname__") (.str "__qualname__" 227) (.str "RunFault" 226)), (DictEntry.mk (PyData.keyHash P "__firstlineno__") (.str "__firstlineno__" 229) (.int 7 228)), (DictEntry.mk (PyData.keyHash P "__static_attributes__") (.str "__static_attributes__" 230) (.ref 42))] 4), #[]⟩
noncomputable def o40 (P : Params) : Obj := ⟨(.type "code"), none, (.fields #[(.str "RunFault" 220), (.str "RunFault" 221), (.str "/claim/cut.py" 222), (.int 7 0), (.int 0 0), (.int 0 0), (.int 0 0), (.int 0 0), (.ref 38), (.bool Bool.false), (.int 181 0), (.ref 39), .none, .none, .none, .none, (.int 223 0), (.int 7 0), (.str "/claim/cut.py" 224)]), #[]⟩
noncomputable def o41 (P : Params) : Obj := ⟨(.type "frame"), none, .plain, #[(some (.ref 40)), (some (.ref 3)), (some (.ref 37)), none, (some (.str "f77.errors" 187)), none, (some (.ref 0))]⟩
noncomputable def o42 (P : Params) : Obj := ⟨(.type "tuple"), none, (.seq #[] 0), #[]⟩
noncomputable def o43 (P : Params) : Obj := ⟨(.type "dict"), none, (.dict #[(DictEntry.mk (PyData.keyHash P "__module__") (.str "__module__" 225) (.str "f77.errors" 187)), (DictEntry.mk (PyData.keyHash P "__firstlineno__") (.str "__firstlineno__" 229) (.int 7 228)), (DictEntry.mk (PyData.keyHash P "__static_attributes__") (.str "__static_attributes__" 230) (.ref 42)), (DictEntry.mk (PyData.keyHash P "__doc__") (.str "__doc__" 231) .none)] 2), #[]⟩
noncomputable def o44 (P : Params) : Obj := ⟨(.type "type"), none, (.cls (PySem.ClassData.mk "RunFault" [(.ref 31)] [(.ref 44), (.ref 31), (.type "Exception"), (.type "BaseException"), (.type "object")] 43 "RunFault" Bool.true [] [] Bool.false none Bool.false)), #[(some (.ref 35)), none, (some (.str "RunFault" 218)), (some (.str "RunFault" 226)), (some (.builtin "Exception.__new__")), (some (.bool Bool.true))]⟩
noncomputable def o46 (P : Params) : Obj := ⟨(.type "builtin_function_or_method"), none, (.fields #[(.builtin "object.__init_subclass__"), (.ref 44)]), #[]⟩
noncomputable def o47 (P : Params) : Obj := ⟨(.type "tuple"), none, (.seq #[] 0), #[]⟩
noncomputable def o49 (P : Params) : Obj := ⟨(.type "tuple"), none, (.seq #[(.str "n" 239), (.str "width" 240), (.str "most" 241)] 0), #[]⟩
noncomputable def o50 (P : Params) : Obj := ⟨(.type "tuple"), none, (.seq #[] 0), #[]⟩
noncomputable def o51 (P : Params) : Obj := ⟨.none, none, .func (FuncData.mk "fit_int" "fit_int" (fs 4).1 (.stmts (fs 4).2.1) (fs 4).2.2 0 [] .none .none .none .none none .none .none 0), #[]⟩
noncomputable def o52 (P : Params) : Obj := ⟨(.type "code"), none, (.fields #[(.str "fit_int" 236), (.str "fit_int" 237), (.str "/claim/cut.py" 238), (.int 10 0), (.int 2 0), (.int 0 0), (.int 0 0), (.int 3 0), (.ref 47), (.bool Bool.true), (.int 181 0), (.ref 48), .none, (.ref 49), (.ref 50), (.ref 51), (.int 242 0), (.int 10 0), (.str "/claim/cut.py" 243)]), #[]⟩
noncomputable def o53 (P : Params) : Obj := ⟨(.type "function"), none, .func (FuncData.mk "fit_int" "fit_int" (fs 4).1 (.stmts (fs 4).2.1) (fs 4).2.2 3 [] .none .none .none (.str "f77.ints" 234) none (.ref 52) .none 0), #[]⟩
noncomputable def o54 (P : Params) : Obj := ⟨(.type "tuple"), none, (.seq #[] 0), #[]⟩
noncomputable def o56 (P : Params) : Obj := ⟨(.type "tuple"), none, (.seq #[(.str "x" 248), (.str "y" 249), (.str "width" 250)] 0), #[]⟩
noncomputable def o57 (P : Params) : Obj := ⟨(.type "tuple"), none, (.seq #[] 0), #[]⟩
noncomputable def o58 (P : Params) : Obj := ⟨.none, none, .func (FuncData.mk "int_add" "int_add" (fs 5).1 (.stmts (fs 5).2.1) (fs 5).2.2 0 [] .none .none .none .none none .none .none 0), #[]⟩
noncomputable def o59 (P : Params) : Obj := ⟨(.type "code"), none, (.fields #[(.str "int_add" 245), (.str "int_add" 246), (.str "/claim/cut.py" 247), (.int 15 0), (.int 3 0), (.int 0 0), (.int 0 0), (.int 3 0), (.ref 54), (.bool Bool.true), (.int 181 0), (.ref 55), .none, (.ref 56), (.ref 57), (.ref 58), (.int 251 0), (.int 15 0), (.str "/claim/cut.py" 252)]), #[]⟩
noncomputable def o60 (P : Params) : Obj := ⟨(.type "function"), none, .func (FuncData.mk "int_add" "int_add" (fs 5).1 (.stmts (fs 5).2.1) (fs 5).2.2 3 [] .none .none .none (.str "f77.ints" 234) none (.ref 59) .none 0), #[]⟩
noncomputable def o61 (P : Params) : Obj := ⟨(.type "tuple"), none, (.seq #[] 0), #[]⟩
noncomputable def o63 (P : Params) : Obj := ⟨(.type "tuple"), none, (.seq #[(.str "x" 257), (.str "y" 258), (.str "width" 259)] 0), #[]⟩
noncomputable def o64 (P : Params) : Obj := ⟨(.type "tuple"), none, (.seq #[] 0), #[]⟩
noncomputable def o65 (P : Params) : Obj := ⟨.none, none, .func (FuncData.mk "int_sub" "int_sub" (fs 6).1 (.stmts (fs 6).2.1) (fs 6).2.2 0 [] .none .none .none .none none .none .none 0), #[]⟩
noncomputable def o66 (P : Params) : Obj := ⟨(.type "code"), none, (.fields #[(.str "int_sub" 254), (.str "int_sub" 255), (.str "/claim/cut.py" 256), (.int 17 0), (.int 3 0), (.int 0 0), (.int 0 0), (.int 3 0), (.ref 61), (.bool Bool.true), (.int 181 0), (.ref 62), .none, (.ref 63), (.ref 64), (.ref 65), (.int 260 0), (.int 17 0), (.str "/claim/cut.py" 261)]), #[]⟩
noncomputable def o67 (P : Params) : Obj := ⟨(.type "function"), none, .func (FuncData.mk "int_sub" "int_sub" (fs 6).1 (.stmts (fs 6).2.1) (fs 6).2.2 3 [] .none .none .none (.str "f77.ints" 234) none (.ref 66) .none 0), #[]⟩
noncomputable def o68 (P : Params) : Obj := ⟨(.type "tuple"), none, (.seq #[] 0), #[]⟩
noncomputable def o70 (P : Params) : Obj := ⟨(.type "tuple"), none, (.seq #[(.str "x" 266), (.str "y" 267), (.str "width" 268)] 0), #[]⟩
noncomputable def o71 (P : Params) : Obj := ⟨(.type "tuple"), none, (.seq #[] 0), #[]⟩
noncomputable def o72 (P : Params) : Obj := ⟨.none, none, .func (FuncData.mk "int_mul" "int_mul" (fs 7).1 (.stmts (fs 7).2.1) (fs 7).2.2 0 [] .none .none .none .none none .none .none 0), #[]⟩
noncomputable def o73 (P : Params) : Obj := ⟨(.type "code"), none, (.fields #[(.str "int_mul" 263), (.str "int_mul" 264), (.str "/claim/cut.py" 265), (.int 19 0), (.int 3 0), (.int 0 0), (.int 0 0), (.int 3 0), (.ref 68), (.bool Bool.true), (.int 181 0), (.ref 69), .none, (.ref 70), (.ref 71), (.ref 72), (.int 269 0), (.int 19 0), (.str "/claim/cut.py" 270)]), #[]⟩
noncomputable def o74 (P : Params) : Obj := ⟨(.type "function"), none, .func (FuncData.mk "int_mul" "int_mul" (fs 7).1 (.stmts (fs 7).2.1) (fs 7).2.2 3 [] .none .none .none (.str "f77.ints" 234) none (.ref 73) .none 0), #[]⟩
noncomputable def o75 (P : Params) : Obj := ⟨(.type "tuple"), none, (.seq #[] 0), #[]⟩
noncomputable def o77 (P : Params) : Obj := ⟨(.type "tuple"), none, (.seq #[(.str "x" 275), (.str "y" 276), (.str "found" 277)] 0), #[]⟩
noncomputable def o78 (P : Params) : Obj := ⟨(.type "tuple"), none, (.seq #[] 0), #[]⟩
noncomputable def o79 (P : Params) : Obj := ⟨.none, none, .func (FuncData.mk "cut_quotient" "cut_quotient" (fs 8).1 (.stmts (fs 8).2.1) (fs 8).2.2 0 [] .none .none .none .none none .none .none 0), #[]⟩
noncomputable def o80 (P : Params) : Obj := ⟨(.type "code"), none, (.fields #[(.str "cut_quotient" 272), (.str "cut_quotient" 273), (.str "/claim/cut.py" 274), (.int 21 0), (.int 2 0), (.int 0 0), (.int 0 0), (.int 3 0), (.ref 75), (.bool Bool.true), (.int 181 0), (.ref 76), .none, (.ref 77), (.ref 78), (.ref 79), (.int 278 0), (.int 21 0), (.str "/claim/cut.py" 279)]), #[]⟩
noncomputable def o81 (P : Params) : Obj := ⟨(.type "function"), none, .func (FuncData.mk "cut_quotient" "cut_quotient" (fs 8).1 (.stmts (fs 8).2.1) (fs 8).2.2 3 [] .none .none .none (.str "f77.ints" 234) none (.ref 80) .none 0), #[]⟩
noncomputable def o82 (P : Params) : Obj := ⟨(.type "tuple"), none, (.seq #[] 0), #[]⟩
noncomputable def o84 (P : Params) : Obj := ⟨(.type "tuple"), none, (.seq #[(.str "x" 284), (.str "y" 285), (.str "width" 286)] 0), #[]⟩
noncomputable def o85 (P : Params) : Obj := ⟨(.type "tuple"), none, (.seq #[] 0), #[]⟩
noncomputable def o86 (P : Params) : Obj := ⟨.none, none, .func (FuncData.mk "int_div" "int_div" (fs 9).1 (.stmts (fs 9).2.1) (fs 9).2.2 0 [] .none .none .none .none none .none .none 0), #[]⟩
noncomputable def o87 (P : Params) : Obj := ⟨(.type "code"), none, (.fields #[(.str "int_div" 281), (.str "int_div" 282), (.str "/claim/cut.py" 283), (.int 24 0), (.int 3 0), (.int 0 0), (.int 0 0), (.int 3 0), (.ref 82), (.bool Bool.true), (.int 181 0), (.ref 83), .none, (.ref 84), (.ref 85), (.ref 86), (.int 287 0), (.int 24 0), (.str "/claim/cut.py" 288)]), #[]⟩
noncomputable def o88 (P : Params) : Obj := ⟨(.type "function"), none, .func (FuncData.mk "int_div" "int_div" (fs 9).1 (.stmts (fs 9).2.1) (fs 9).2.2 3 [] .none .none .none (.str "f77.ints" 234) none (.ref 87) .none 0), #[]⟩
noncomputable def o89 (P : Params) : Obj := ⟨(.type "tuple"), none, (.seq #[] 0), #[]⟩
noncomputable def o91 (P : Params) : Obj := ⟨(.type "tuple"), none, (.seq #[(.str "x" 293), (.str "n" 294)] 0), #[]⟩
noncomputable def o92 (P : Params) : Obj := ⟨(.type "tuple"), none, (.seq #[] 0), #[]⟩
noncomputable def o93 (P : Params) : Obj := ⟨.none, none, .func (FuncData.mk "inverse_power" "inverse_power" (fs 10).1 (.stmts (fs 10).2.1) (fs 10).2.2 0 [] .none .none .none .none none .none .none 0), #[]⟩
noncomputable def o94 (P : Params) : Obj := ⟨(.type "code"), none, (.fields #[(.str "inverse_power" 290), (.str "inverse_power" 291), (.str "/claim/cut.py" 292), (.int 28 0), (.int 2 0), (.int 0 0), (.int 0 0), (.int 3 0), (.ref 89), (.bool Bool.true), (.int 181 0), (.ref 90), .none, (.ref 91), (.ref 92), (.ref 93), (.int 295 0), (.int 28 0), (.str "/claim/cut.py" 296)]), #[]⟩
noncomputable def o95 (P : Params) : Obj := ⟨(.type "function"), none, .func (FuncData.mk "inverse_power" "inverse_power" (fs 10).1 (.stmts (fs 10).2.1) (fs 10).2.2 3 [] .none .none .none (.str "f77.ints" 234) none (.ref 94) .none 0), #[]⟩
noncomputable def o96 (P : Params) : Obj := ⟨(.type "tuple"), none, (.seq #[] 0), #[]⟩
noncomputable def o98 (P : Params) : Obj := ⟨(.type "tuple"), none, (.seq #[(.str "x" 301), (.str "n" 302), (.str "width" 303), (.str "found" 304), (.str "turn" 305)] 0), #[]⟩
noncomputable def o99 (P : Params) : Obj := ⟨(.type "tuple"), none, (.seq #[] 0), #[]⟩
noncomputable def o100 (P : Params) : Obj := ⟨.none, none, .func (FuncData.mk "int_power" "int_power" (fs 11).1 (.stmts (fs 11).2.1) (fs 11).2.2 0 [] .none .none .none .none none .none .none 0), #[]⟩
noncomputable def o101 (P : Params) : Obj := ⟨(.type "code"), none, (.fields #[(.str "int_power" 298), (.str "int_power" 299), (.str "/claim/cut.py" 300), (.int 34 0), (.int 3 0), (.int 0 0), (.int 0 0), (.int 3 0), (.ref 96), (.bool Bool.true), (.int 181 0), (.ref 97), .none, (.ref 98), (.ref 99), (.ref 100), (.int 306 0), (.int 34 0), (.str "/claim/cut.py" 307)]), #[]⟩
noncomputable def o102 (P : Params) : Obj := ⟨(.type "function"), none, .func (FuncData.mk "int_power" "int_power" (fs 11).1 (.stmts (fs 11).2.1) (fs 11).2.2 3 [] .none .none .none (.str "f77.ints" 234) none (.ref 101) .none 0), #[]⟩
noncomputable def o103 (P : Params) : Obj := ⟨(.type "tuple"), none, (.seq #[] 0), #[]⟩
noncomputable def o105 (P : Params) : Obj := ⟨(.type "tuple"), none, (.seq #[(.str "x" 312), (.str "y" 313)] 0), #[]⟩
noncomputable def o106 (P : Params) : Obj := ⟨(.type "tuple"), none, (.seq #[] 0), #[]⟩
noncomputable def o107 (P : Params) : Obj := ⟨.none, none, .func (FuncData.mk "order_of" "order_of" (fs 12).1 (.stmts (fs 12).2.1) (fs 12).2.2 0 [] .none .none .none .none none .none .none 0), #[]⟩
noncomputable def o108 (P : Params) : Obj := ⟨(.type "code"), none, (.fields #[(.str "order_of" 309), (.str "order_of" 310), (.str "/claim/cut.py" 311), (.int 43 0), (.int 2 0), (.int 0 0), (.int 0 0), (.int 3 0), (.ref 103), (.bool Bool.true), (.int 181 0), (.ref 104), .none, (.ref 105), (.ref 106), (.ref 107), (.int 314 0), (.int 43 0), (.str "/claim/cut.py" 315)]), #[]⟩
noncomputable def o109 (P : Params) : Obj := ⟨(.type "function"), none, .func (FuncData.mk "order_of" "order_of" (fs 12).1 (.stmts (fs 12).2.1) (fs 12).2.2 3 [] .none .none .none (.str "f77.ints" 234) none (.ref 108) .none 0), #[]⟩
noncomputable def o110 (P : Params) : Obj := ⟨(.type "tuple"), none, (.seq #[] 0), #[]⟩
noncomputable def o112 (P : Params) : Obj := ⟨(.type "tuple"), none, (.seq #[(.str "op" 320), (.str "order" 321)] 0), #[]⟩
noncomputable def o113 (P : Params) : Obj := ⟨(.type "tuple"), none, (.seq #[] 0), #[]⟩
noncomputable def o114 (P : Params) : Obj := ⟨.none, none, .func (FuncData.mk "holds" "holds" (fs 13).1 (.stmts (fs 13).2.1) (fs 13).2.2 0 [] .none .none .none .none none .none .none 0), #[]⟩
noncomputable def o115 (P : Params) : Obj := ⟨(.type "code"), none, (.fields #[(.str "holds" 317), (.str "holds" 318), (.str "/claim/cut.py" 319), (.int 47 0), (.int 2 0), (.int 0 0), (.int 0 0), (.int 3 0), (.ref 110), (.bool Bool.true), (.int 181 0), (.ref 111), .none, (.ref 112), (.ref 113), (.ref 114), (.int 322 0), (.int 47 0), (.str "/claim/cut.py" 323)]), #[]⟩
noncomputable def o116 (P : Params) : Obj := ⟨(.type "function"), none, .func (FuncData.mk "holds" "holds" (fs 13).1 (.stmts (fs 13).2.1) (fs 13).2.2 3 [] .none .none .none (.str "f77.ints" 234) none (.ref 115) .none 0), #[]⟩
noncomputable def o117 (P : Params) : Obj := ⟨(.type "tuple"), none, (.seq #[] 0), #[]⟩
noncomputable def o119 (P : Params) : Obj := ⟨(.type "tuple"), none, (.seq #[(.str "op" 328), (.str "kind" 329), (.str "x" 330), (.str "y" 331), (.str "limits" 332)] 0), #[]⟩
noncomputable def o120 (P : Params) : Obj := ⟨(.type "tuple"), none, (.seq #[] 0), #[]⟩
noncomputable def o121 (P : Params) : Obj := ⟨.none, none, .func (FuncData.mk "int_binary" "int_binary" (fs 14).1 (.stmts (fs 14).2.1) (fs 14).2.2 0 [] .none .none .none .none none .none .none 0), #[]⟩
noncomputable def o122 (P : Params) : Obj := ⟨(.type "code"), none, (.fields #[(.str "int_binary" 325), (.str "int_binary" 326), (.str "/claim/cut.py" 327), (.int 61 0), (.int 5 0), (.int 0 0), (.int 0 0), (.int 3 0), (.ref 117), (.bool Bool.true), (.int 181 0), (.ref 118), .none, (.ref 119), (.ref 120), (.ref 121), (.int 333 0), (.int 61 0), (.str "/claim/cut.py" 334)]), #[]⟩
noncomputable def o123 (P : Params) : Obj := ⟨(.type "function"), none, .func (FuncData.mk "int_binary" "int_binary" (fs 14).1 (.stmts (fs 14).2.1) (fs 14).2.2 3 [] .none .none .none (.str "f77.ints" 234) none (.ref 122) .none 0), #[]⟩
noncomputable def o124 (P : Params) : Obj := ⟨(.type "tuple"), none, (.seq #[] 0), #[]⟩
noncomputable def o126 (P : Params) : Obj := ⟨(.type "tuple"), none, (.seq #[(.str "op" 339), (.str "kind" 340), (.str "x" 341), (.str "y" 342), (.str "limits" 343)] 0), #[]⟩
noncomputable def o127 (P : Params) : Obj := ⟨(.type "tuple"), none, (.seq #[] 0), #[]⟩
noncomputable def o128 (P : Params) : Obj := ⟨.none, none, .func (FuncData.mk "logic_binary" "logic_binary" (fs 15).1 (.stmts (fs 15).2.1) (fs 15).2.2 0 [] .none .none .none .none none .none .none 0), #[]⟩
noncomputable def o129 (P : Params) : Obj := ⟨(.type "code"), none, (.fields #[(.str "logic_binary" 336), (.str "logic_binary" 337), (.str "/claim/cut.py" 338), (.int 73 0), (.int 5 0), (.int 0 0), (.int 0 0), (.int 3 0), (.ref 124), (.bool Bool.true), (.int 181 0), (.ref 125), .none, (.ref 126), (.ref 127), (.ref 128), (.int 344 0), (.int 73 0), (.str "/claim/cut.py" 345)]), #[]⟩
noncomputable def o130 (P : Params) : Obj := ⟨(.type "function"), none, .func (FuncData.mk "logic_binary" "logic_binary" (fs 15).1 (.stmts (fs 15).2.1) (fs 15).2.2 3 [] .none .none .none (.str "f77.ints" 234) none (.ref 129) .none 0), #[]⟩
noncomputable def o131 (P : Params) : Obj := ⟨(.type "tuple"), none, (.seq #[(.int 0 361), (.int 0 362)] 0), #[]⟩
noncomputable def o132 (P : Params) : Obj := ⟨(.type "tuple"), none, (.seq #[] 0), #[]⟩
noncomputable def o134 (P : Params) : Obj := ⟨(.type "tuple"), none, (.seq #[(.str "n" 371), (.str "count" 372)] 0), #[]⟩
noncomputable def o135 (P : Params) : Obj := ⟨(.type "tuple"), none, (.seq #[] 0), #[]⟩
noncomputable def o136 (P : Params) : Obj := ⟨.none, none, .func (FuncData.mk "count_digits" "count_digits" (fs 26).1 (.stmts (fs 26).2.1) (fs 26).2.2 0 [] .none .none .none .none none .none .none 0), #[]⟩
noncomputable def o137 (P : Params) : Obj := ⟨(.type "code"), none, (.fields #[(.str "count_digits" 368), (.str "count_digits" 369), (.str "/claim/cut.py" 370), (.int 93 0), (.int 1 0), (.int 0 0), (.int 0 0), (.int 3 0), (.ref 132), (.bool Bool.true), (.int 181 0), (.ref 133), .none, (.ref 134), (.ref 135), (.ref 136), (.int 373 0), (.int 93 0), (.str "/claim/cut.py" 374)]), #[]⟩
noncomputable def o138 (P : Params) : Obj := ⟨(.type "function"), none, .func (FuncData.mk "count_digits" "count_digits" (fs 26).1 (.stmts (fs 26).2.1) (fs 26).2.2 3 [] .none .none .none (.str "f77.reals" 359) none (.ref 137) .none 0), #[]⟩
noncomputable def o139 (P : Params) : Obj := ⟨(.type "tuple"), none, (.seq #[] 0), #[]⟩
noncomputable def o141 (P : Params) : Obj := ⟨(.type "tuple"), none, (.seq #[(.str "m" 379), (.str "e" 380)] 0), #[]⟩
noncomputable def o142 (P : Params) : Obj := ⟨(.type "tuple"), none, (.seq #[] 0), #[]⟩
noncomputable def o143 (P : Params) : Obj := ⟨.none, none, .func (FuncData.mk "strip_zeros" "strip_zeros" (fs 27).1 (.stmts (fs 27).2.1) (fs 27).2.2 0 [] .none .none .none .none none .none .none 0), #[]⟩
noncomputable def o144 (P : Params) : Obj := ⟨(.type "code"), none, (.fields #[(.str "strip_zeros" 376), (.str "strip_zeros" 377), (.str "/claim/cut.py" 378), (.int 103 0), (.int 2 0), (.int 0 0), (.int 0 0), (.int 3 0), (.ref 139), (.bool Bool.true), (.int 181 0), (.ref 140), .none, (.ref 141), (.ref 142), (.ref 143), (.int 381 0), (.int 103 0), (.str "/claim/cut.py" 382)]), #[]⟩
noncomputable def o145 (P : Params) : Obj := ⟨(.type "function"), none, .func (FuncData.mk "strip_zeros" "strip_zeros" (fs 27).1 (.stmts (fs 27).2.1) (fs 27).2.2 3 [] .none .none .none (.str "f77.reals" 359) none (.ref 144) .none 0), #[]⟩
noncomputable def o146 (P : Params) : Obj := ⟨(.type "tuple"), none, (.seq #[] 0), #[]⟩
noncomputable def o148 (P : Params) : Obj := ⟨(.type "tuple"), none, (.seq #[(.str "m" 387), (.str "e" 388), (.str "digits" 389), (.str "drop" 390), (.str "power" 391), (.str "kept" 392), (.str "rest" 393)] 0), #[]⟩
noncomputable def o149 (P : Params) : Obj := ⟨(.type "tuple"), none, (.seq #[] 0), #[]⟩
noncomputable def o150 (P : Params) : Obj := ⟨.none, none, .func (FuncData.mk "round_digits" "round_digits" (fs 28).1 (.stmts (fs 28).2.1) (fs 28).2.2 0 [] .none .none .none .none none .none .none 0), #[]⟩
noncomputable def o151 (P : Params) : Obj := ⟨(.type "code"), none, (.fields #[(.str "round_digits" 384), (.str "round_digits" 385), (.str "/claim/cut.py" 386), (.int 110 0), (.int 3 0), (.int 0 0), (.int 0 0), (.int 3 0), (.ref 146), (.bool Bool.true), (.int 181 0), (.ref 147), .none, (.ref 148), (.ref 149), (.ref 150), (.int 394 0), (.int 110 0), (.str "/claim/cut.py" 395)]), #[]⟩
noncomputable def o152 (P : Params) : Obj := ⟨(.type "function"), none, .func (FuncData.mk "round_digits" "round_digits" (fs 28).1 (.stmts (fs 28).2.1) (fs 28).2.2 3 [] .none .none .none (.str "f77.reals" 359) none (.ref 151) .none 0), #[]⟩
noncomputable def o153 (P : Params) : Obj := ⟨(.type "tuple"), none, (.seq #[] 0), #[]⟩
noncomputable def o155 (P : Params) : Obj := ⟨(.type "tuple"), none, (.seq #[(.str "m" 400), (.str "e" 401), (.str "digits" 402), (.str "top" 403), (.str "lead" 404)] 0), #[]⟩
noncomputable def o156 (P : Params) : Obj := ⟨(.type "tuple"), none, (.seq #[] 0), #[]⟩
noncomputable def o157 (P : Params) : Obj := ⟨.none, none, .func (FuncData.mk "round_real" "round_real" (fs 29).1 (.stmts (fs 29).2.1) (fs 29).2.2 0 [] .none .none .none .none none .none .none 0), #[]⟩
noncomputable def o158 (P : Params) : Obj := ⟨(.type "code"), none, (.fields #[(.str "round_real" 397), (.str "round_real" 398), (.str "/claim/cut.py" 399), (.int 120 0), (.int 4 0), (.int 0 0), (.int 0 0), (.int 3 0), (.ref 153), (.bool Bool.true), (.int 181 0), (.ref 154), .none, (.ref 155), (.ref 156), (.ref 157), (.int 405 0), (.int 120 0), (.str "/claim/cut.py" 406)]), #[]⟩
noncomputable def o159 (P : Params) : Obj := ⟨(.type "function"), none, .func (FuncData.mk "round_real" "round_real" (fs 29).1 (.stmts (fs 29).2.1) (fs 29).2.2 3 [] .none .none .none (.str "f77.reals" 359) none (.ref 158) .none 0), #[]⟩
noncomputable def o160 (P : Params) : Obj := ⟨(.type "tuple"), none, (.seq #[] 0), #[]⟩
noncomputable def o162 (P : Params) : Obj := ⟨(.type "tuple"), none, (.seq #[(.str "x" 411), (.str "y" 412), (.str "low" 413)] 0), #[]⟩
noncomputable def o163 (P : Params) : Obj := ⟨(.type "tuple"), none, (.seq #[] 0), #[]⟩
noncomputable def o164 (P : Params) : Obj := ⟨.none, none, .func (FuncData.mk "exact_add" "exact_add" (fs 30).1 (.stmts (fs 30).2.1) (fs 30).2.2 0 [] .none .none .none .none none .none .none 0), #[]⟩
noncomputable def o165 (P : Params) : Obj := ⟨(.type "code"), none, (.fields #[(.str "exact_add" 408), (.str "exact_add" 409), (.str "/claim/cut.py" 410), (.int 128 0), (.int 2 0), (.int 0 0), (.int 0 0), (.int 3 0), (.ref 160), (.bool Bool.true), (.int 181 0), (.ref 161), .none, (.ref 162), (.ref 163), (.ref 164), (.int 414 0), (.int 128 0), (.str "/claim/cut.py" 415)]), #[]⟩
noncomputable def o166 (P : Params) : Obj := ⟨(.type "function"), none, .func (FuncData.mk "exact_add" "exact_add" (fs 30).1 (.stmts (fs 30).2.1) (fs 30).2.2 3 [] .none .none .none (.str "f77.reals" 359) none (.ref 165) .none 0), #[]⟩
noncomputable def o167 (P : Params) : Obj := ⟨(.type "tuple"), none, (.seq #[] 0), #[]⟩
noncomputable def o169 (P : Params) : Obj := ⟨(.type "tuple"), none, (.seq #[(.str "x" 420), (.str "y" 421)] 0), #[]⟩
noncomputable def o170 (P : Params) : Obj := ⟨(.type "tuple"), none, (.seq #[] 0), #[]⟩
noncomputable def o171 (P : Params) : Obj := ⟨.none, none, .func (FuncData.mk "exact_mul" "exact_mul" (fs 31).1 (.stmts (fs 31).2.1) (fs 31).2.2 0 [] .none .none .none .none none .none .none 0), #[]⟩
noncomputable def o172 (P : Params) : Obj := ⟨(.type "code"), none, (.fields #[(.str "exact_mul" 417), (.str "exact_mul" 418), (.str "/claim/cut.py" 419), (.int 131 0), (.int 2 0), (.int 0 0), (.int 0 0), (.int 3 0), (.ref 167), (.bool Bool.true), (.int 181 0), (.ref 168), .none, (.ref 169), (.ref 170), (.ref 171), (.int 422 0), (.int 131 0), (.str "/claim/cut.py" 423)]), #[]⟩
noncomputable def o173 (P : Params) : Obj := ⟨(.type "function"), none, .func (FuncData.mk "exact_mul" "exact_mul" (fs 31).1 (.stmts (fs 31).2.1) (fs 31).2.2 3 [] .none .none .none (.str "f77.reals" 359) none (.ref 172) .none 0), #[]⟩
noncomputable def o174 (P : Params) : Obj := ⟨(.type "tuple"), none, (.seq #[] 0), #[]⟩
noncomputable def o176 (P : Params) : Obj := ⟨(.type "tuple"), none, (.seq #[(.str "x" 428)] 0), #[]⟩
noncomputable def o177 (P : Params) : Obj := ⟨(.type "tuple"), none, (.seq #[] 0), #[]⟩
noncomputable def o178 (P : Params) : Obj := ⟨.none, none, .func (FuncData.mk "real_neg" "real_neg" (fs 32).1 (.stmts (fs 32).2.1) (fs 32).2.2 0 [] .none .none .none .none none .none .none 0), #[]⟩
noncomputable def o179 (P : Params) : Obj := ⟨(.type "code"), none, (.fields #[(.str "real_neg" 425), (.str "real_neg" 426), (.str "/claim/cut.py" 427), (.int 133 0), (.int 1 0), (.int 0 0), (.int 0 0), (.int 3 0), (.ref 174), (.bool Bool.true), (.int 181 0), (.ref 175), .none, (.ref 176), (.ref 177), (.ref 178), (.int 429 0), (.int 133 0), (.str "/claim/cut.py" 430)]), #[]⟩
noncomputable def o180 (P : Params) : Obj := ⟨(.type "function"), none, .func (FuncData.mk "real_neg" "real_neg" (fs 32).1 (.stmts (fs 32).2.1) (fs 32).2.2 3 [] .none .none .none (.str "f77.reals" 359) none (.ref 179) .none 0), #[]⟩
noncomputable def o181 (P : Params) : Obj := ⟨(.type "tuple"), none, (.seq #[] 0), #[]⟩
noncomputable def o183 (P : Params) : Obj := ⟨(.type "tuple"), none, (.seq #[(.str "over" 435), (.str "under" 436), (.str "e" 437), (.str "digits" 438), (.str "shift" 439), (.str "kept" 440), (.str "rest" 441), (.str "m" 442)] 0), #[]⟩
noncomputable def o184 (P : Params) : Obj := ⟨(.type "tuple"), none, (.seq #[] 0), #[]⟩
noncomputable def o185 (P : Params) : Obj := ⟨.none, none, .func (FuncData.mk "quotient" "quotient" (fs 33).1 (.stmts (fs 33).2.1) (fs 33).2.2 0 [] .none .none .none .none none .none .none 0), #[]⟩
noncomputable def o186 (P : Params) : Obj := ⟨(.type "code"), none, (.fields #[(.str "quotient" 432), (.str "quotient" 433), (.str "/claim/cut.py" 434), (.int 135 0), (.int 4 0), (.int 0 0), (.int 0 0), (.int 3 0), (.ref 181), (.bool Bool.true), (.int 181 0), (.ref 182), .none, (.ref 183), (.ref 184), (.ref 185), (.int 443 0), (.int 135 0), (.str "/claim/cut.py" 444)]), #[]⟩
noncomputable def o187 (P : Params) : Obj := ⟨(.type "function"), none, .func (FuncData.mk "quotient" "quotient" (fs 33).1 (.stmts (fs 33).2.1) (fs 33).2.2 3 [] .none .none .none (.str "f77.reals" 359) none (.ref 186) .none 0), #[]⟩
noncomputable def o188 (P : Params) : Obj := ⟨(.type "tuple"), none, (.seq #[] 0), #[]⟩
noncomputable def o190 (P : Params) : Obj := ⟨(.type "tuple"), none, (.seq #[(.str "x" 449), (.str "y" 450), (.str "digits" 451), (.str "top" 452), (.str "m" 453), (.str "e" 454)] 0), #[]⟩
noncomputable def o191 (P : Params) : Obj := ⟨(.type "tuple"), none, (.seq #[] 0), #[]⟩
noncomputable def o192 (P : Params) : Obj := ⟨.none, none, .func (FuncData.mk "real_add" "real_add" (fs 34).1 (.stmts (fs 34).2.1) (fs 34).2.2 0 [] .none .none .none .none none .none .none 0), #[]⟩
noncomputable def o193 (P : Params) : Obj := ⟨(.type "code"), none, (.fields #[(.str "real_add" 446), (.str "real_add" 447), (.str "/claim/cut.py" 448), (.int 142 0), (.int 4 0), (.int 0 0), (.int 0 0), (.int 3 0), (.ref 188), (.bool Bool.true), (.int 181 0), (.ref 189), .none, (.ref 190), (.ref 191), (.ref 192), (.int 455 0), (.int 142 0), (.str "/claim/cut.py" 456)]), #[]⟩
noncomputable def o194 (P : Params) : Obj := ⟨(.type "function"), none, .func (FuncData.mk "real_add" "real_add" (fs 34).1 (.stmts (fs 34).2.1) (fs 34).2.2 3 [] .none .none .none (.str "f77.reals" 359) none (.ref 193) .none 0), #[]⟩
noncomputable def o195 (P : Params) : Obj := ⟨(.type "tuple"), none, (.seq #[] 0), #[]⟩
noncomputable def o197 (P : Params) : Obj := ⟨(.type "tuple"), none, (.seq #[(.str "x" 461), (.str "y" 462), (.str "digits" 463), (.str "top" 464), (.str "m" 465), (.str "e" 466)] 0), #[]⟩
noncomputable def o198 (P : Params) : Obj := ⟨(.type "tuple"), none, (.seq #[] 0), #[]⟩
noncomputable def o199 (P : Params) : Obj := ⟨.none, none, .func (FuncData.mk "real_sub" "real_sub" (fs 35).1 (.stmts (fs 35).2.1) (fs 35).2.2 0 [] .none .none .none .none none .none .none 0), #[]⟩
noncomputable def o200 (P : Params) : Obj := ⟨(.type "code"), none, (.fields #[(.str "real_sub" 458), (.str "real_sub" 459), (.str "/claim/cut.py" 460), (.int 145 0), (.int 4 0), (.int 0 0), (.int 0 0), (.int 3 0), (.ref 195), (.bool Bool.true), (.int 181 0), (.ref 196), .none, (.ref 197), (.ref 198), (.ref 199), (.int 467 0), (.int 145 0), (.str "/claim/cut.py" 468)]), #[]⟩
noncomputable def o201 (P : Params) : Obj := ⟨(.type "function"), none, .func (FuncData.mk "real_sub" "real_sub" (fs 35).1 (.stmts (fs 35).2.1) (fs 35).2.2 3 [] .none .none .none (.str "f77.reals" 359) none (.ref 200) .none 0), #[]⟩
noncomputable def o202 (P : Params) : Obj := ⟨(.type "tuple"), none, (.seq #[] 0), #[]⟩
noncomputable def o204 (P : Params) : Obj := ⟨(.type "tuple"), none, (.seq #[(.str "x" 473), (.str "y" 474), (.str "digits" 475), (.str "top" 476), (.str "m" 477), (.str "e" 478)] 0), #[]⟩
noncomputable def o205 (P : Params) : Obj := ⟨(.type "tuple"), none, (.seq #[] 0), #[]⟩
noncomputable def o206 (P : Params) : Obj := ⟨.none, none, .func (FuncData.mk "real_mul" "real_mul" (fs 36).1 (.stmts (fs 36).2.1) (fs 36).2.2 0 [] .none .none .none .none none .none .none 0), #[]⟩
noncomputable def o207 (P : Params) : Obj := ⟨(.type "code"), none, (.fields #[(.str "real_mul" 470), (.str "real_mul" 471), (.str "/claim/cut.py" 472), (.int 148 0), (.int 4 0), (.int 0 0), (.int 0 0), (.int 3 0), (.ref 202), (.bool Bool.true), (.int 181 0), (.ref 203), .none, (.ref 204), (.ref 205), (.ref 206), (.int 479 0), (.int 148 0), (.str "/claim/cut.py" 480)]), #[]⟩
noncomputable def o208 (P : Params) : Obj := ⟨(.type "function"), none, .func (FuncData.mk "real_mul" "real_mul" (fs 36).1 (.stmts (fs 36).2.1) (fs 36).2.2 3 [] .none .none .none (.str "f77.reals" 359) none (.ref 207) .none 0), #[]⟩
noncomputable def o209 (P : Params) : Obj := ⟨(.type "tuple"), none, (.seq #[] 0), #[]⟩
noncomputable def o211 (P : Params) : Obj := ⟨(.type "tuple"), none, (.seq #[(.str "x" 485), (.str "y" 486), (.str "digits" 487), (.str "top" 488), (.str "m" 489), (.str "e" 490)] 0), #[]⟩
noncomputable def o212 (P : Params) : Obj := ⟨(.type "tuple"), none, (.seq #[] 0), #[]⟩
noncomputable def o213 (P : Params) : Obj := ⟨.none, none, .func (FuncData.mk "real_div" "real_div" (fs 37).1 (.stmts (fs 37).2.1) (fs 37).2.2 0 [] .none .none .none .none none .none .none 0), #[]⟩
noncomputable def o214 (P : Params) : Obj := ⟨(.type "code"), none, (.fields #[(.str "real_div" 482), (.str "real_div" 483), (.str "/claim/cut.py" 484), (.int 151 0), (.int 4 0), (.int 0 0), (.int 0 0), (.int 3 0), (.ref 209), (.bool Bool.true), (.int 181 0), (.ref 210), .none, (.ref 211), (.ref 212), (.ref 213), (.int 491 0), (.int 151 0), (.str "/claim/cut.py" 492)]), #[]⟩
noncomputable def o215 (P : Params) : Obj := ⟨(.type "function"), none, .func (FuncData.mk "real_div" "real_div" (fs 37).1 (.stmts (fs 37).2.1) (fs 37).2.2 3 [] .none .none .none (.str "f77.reals" 359) none (.ref 214) .none 0), #[]⟩
noncomputable def o216 (P : Params) : Obj := ⟨(.type "tuple"), none, (.seq #[] 0), #[]⟩
noncomputable def o218 (P : Params) : Obj := ⟨(.type "tuple"), none, (.seq #[(.str "x" 497), (.str "y" 498), (.str "m" 499)] 0), #[]⟩
noncomputable def o219 (P : Params) : Obj := ⟨(.type "tuple"), none, (.seq #[] 0), #[]⟩
noncomputable def o220 (P : Params) : Obj := ⟨.none, none, .func (FuncData.mk "real_compare" "real_compare" (fs 38).1 (.stmts (fs 38).2.1) (fs 38).2.2 0 [] .none .none .none .none none .none .none 0), #[]⟩
noncomputable def o221 (P : Params) : Obj := ⟨(.type "code"), none, (.fields #[(.str "real_compare" 494), (.str "real_compare" 495), (.str "/claim/cut.py" 496), (.int 156 0), (.int 2 0), (.int 0 0), (.int 0 0), (.int 3 0), (.ref 216), (.bool Bool.true), (.int 181 0), (.ref 217), .none, (.ref 218), (.ref 219), (.ref 220), (.int 500 0), (.int 156 0), (.str "/claim/cut.py" 501)]), #[]⟩
noncomputable def o222 (P : Params) : Obj := ⟨(.type "function"), none, .func (FuncData.mk "real_compare" "real_compare" (fs 38).1 (.stmts (fs 38).2.1) (fs 38).2.2 3 [] .none .none .none (.str "f77.reals" 359) none (.ref 221) .none 0), #[]⟩
noncomputable def o223 (P : Params) : Obj := ⟨(.type "tuple"), none, (.seq #[] 0), #[]⟩
noncomputable def o225 (P : Params) : Obj := ⟨(.type "tuple"), none, (.seq #[(.str "n" 506), (.str "digits" 507), (.str "top" 508)] 0), #[]⟩
noncomputable def o226 (P : Params) : Obj := ⟨(.type "tuple"), none, (.seq #[] 0), #[]⟩
noncomputable def o227 (P : Params) : Obj := ⟨.none, none, .func (FuncData.mk "real_of_int" "real_of_int" (fs 39).1 (.stmts (fs 39).2.1) (fs 39).2.2 0 [] .none .none .none .none none .none .none 0), #[]⟩
noncomputable def o228 (P : Params) : Obj := ⟨(.type "code"), none, (.fields #[(.str "real_of_int" 503), (.str "real_of_int" 504), (.str "/claim/cut.py" 505), (.int 161 0), (.int 3 0), (.int 0 0), (.int 0 0), (.int 3 0), (.ref 223), (.bool Bool.true), (.int 181 0), (.ref 224), .none, (.ref 225), (.ref 226), (.ref 227), (.int 509 0), (.int 161 0), (.str "/claim/cut.py" 510)]), #[]⟩
noncomputable def o229 (P : Params) : Obj := ⟨(.type "function"), none, .func (FuncData.mk "real_of_int" "real_of_int" (fs 39).1 (.stmts (fs 39).2.1) (fs 39).2.2 3 [] .none .none .none (.str "f77.reals" 359) none (.ref 228) .none 0), #[]⟩
noncomputable def o230 (P : Params) : Obj := ⟨(.type "tuple"), none, (.seq #[] 0), #[]⟩
noncomputable def o232 (P : Params) : Obj := ⟨(.type "tuple"), none, (.seq #[(.str "x" 515), (.str "m" 516), (.str "e" 517), (.str "found" 518)] 0), #[]⟩
noncomputable def o233 (P : Params) : Obj := ⟨(.type "tuple"), none, (.seq #[] 0), #[]⟩
noncomputable def o234 (P : Params) : Obj := ⟨.none, none, .func (FuncData.mk "real_to_int" "real_to_int" (fs 40).1 (.stmts (fs 40).2.1) (fs 40).2.2 0 [] .none .none .none .none none .none .none 0), #[]⟩
noncomputable def o235 (P : Params) : Obj := ⟨(.type "code"), none, (.fields #[(.str "real_to_int" 512), (.str "real_to_int" 513), (.str "/claim/cut.py" 514), (.int 163 0), (.int 1 0), (.int 0 0), (.int 0 0), (.int 3 0), (.ref 230), (.bool Bool.true), (.int 181 0), (.ref 231), .none, (.ref 232), (.ref 233), (.ref 234), (.int 519 0), (.int 163 0), (.str "/claim/cut.py" 520)]), #[]⟩
noncomputable def o236 (P : Params) : Obj := ⟨(.type "function"), none, .func (FuncData.mk "real_to_int" "real_to_int" (fs 40).1 (.stmts (fs 40).2.1) (fs 40).2.2 3 [] .none .none .none (.str "f77.reals" 359) none (.ref 235) .none 0), #[]⟩
noncomputable def o237 (P : Params) : Obj := ⟨(.type "tuple"), none, (.seq #[] 0), #[]⟩
noncomputable def o239 (P : Params) : Obj := ⟨(.type "tuple"), none, (.seq #[(.str "x" 525), (.str "n" 526), (.str "digits" 527), (.str "found" 528)] 0), #[]⟩
noncomputable def o240 (P : Params) : Obj := ⟨(.type "tuple"), none, (.seq #[] 0), #[]⟩
noncomputable def o241 (P : Params) : Obj := ⟨.none, none, .func (FuncData.mk "raised" "raised" (fs 41).1 (.stmts (fs 41).2.1) (fs 41).2.2 0 [] .none .none .none .none none .none .none 0), #[]⟩
noncomputable def o242 (P : Params) : Obj := ⟨(.type "code"), none, (.fields #[(.str "raised" 522), (.str "raised" 523), (.str "/claim/cut.py" 524), (.int 169 0), (.int 3 0), (.int 0 0), (.int 0 0), (.int 3 0), (.ref 237), (.bool Bool.true), (.int 181 0), (.ref 238), .none, (.ref 239), (.ref 240), (.ref 241), (.int 529 0), (.int 169 0), (.str "/claim/cut.py" 530)]), #[]⟩
noncomputable def o243 (P : Params) : Obj := ⟨(.type "function"), none, .func (FuncData.mk "raised" "raised" (fs 41).1 (.stmts (fs 41).2.1) (fs 41).2.2 3 [] .none .none .none (.str "f77.reals" 359) none (.ref 242) .none 0), #[]⟩
noncomputable def o244 (P : Params) : Obj := ⟨(.type "tuple"), none, (.seq #[] 0), #[]⟩
noncomputable def o246 (P : Params) : Obj := ⟨(.type "tuple"), none, (.seq #[(.str "x" 535), (.str "n" 536), (.str "digits" 537), (.str "top" 538), (.str "m" 539), (.str "e" 540)] 0), #[]⟩
noncomputable def o247 (P : Params) : Obj := ⟨(.type "tuple"), none, (.seq #[] 0), #[]⟩
noncomputable def o248 (P : Params) : Obj := ⟨.none, none, .func (FuncData.mk "real_power" "real_power" (fs 42).1 (.stmts (fs 42).2.1) (fs 42).2.2 0 [] .none .none .none .none none .none .none 0), #[]⟩
noncomputable def o249 (P : Params) : Obj := ⟨(.type "code"), none, (.fields #[(.str "real_power" 532), (.str "real_power" 533), (.str "/claim/cut.py" 534), (.int 179 0), (.int 4 0), (.int 0 0), (.int 0 0), (.int 3 0), (.ref 244), (.bool Bool.true), (.int 181 0), (.ref 245), .none, (.ref 246), (.ref 247), (.ref 248), (.int 541 0), (.int 179 0), (.str "/claim/cut.py" 542)]), #[]⟩
noncomputable def o250 (P : Params) : Obj := ⟨(.type "function"), none, .func (FuncData.mk "real_power" "real_power" (fs 42).1 (.stmts (fs 42).2.1) (fs 42).2.2 3 [] .none .none .none (.str "f77.reals" 359) none (.ref 249) .none 0), #[]⟩
noncomputable def o251 (P : Params) : Obj := ⟨(.type "tuple"), none, (.seq #[] 0), #[]⟩
noncomputable def o253 (P : Params) : Obj := ⟨(.type "tuple"), none, (.seq #[(.str "kind" 547), (.str "limits" 548)] 0), #[]⟩
noncomputable def o254 (P : Params) : Obj := ⟨(.type "tuple"), none, (.seq #[] 0), #[]⟩
noncomputable def o255 (P : Params) : Obj := ⟨.none, none, .func (FuncData.mk "digits_of" "digits_of" (fs 43).1 (.stmts (fs 43).2.1) (fs 43).2.2 0 [] .none .none .none .none none .none .none 0), #[]⟩
noncomputable def o256 (P : Params) : Obj := ⟨(.type "code"), none, (.fields #[(.str "digits_of" 544), (.str "digits_of" 545), (.str "/claim/cut.py" 546), (.int 186 0), (.int 2 0), (.int 0 0), (.int 0 0), (.int 3 0), (.ref 251), (.bool Bool.true), (.int 181 0), (.ref 252), .none, (.ref 253), (.ref 254), (.ref 255), (.int 549 0), (.int 186 0), (.str "/claim/cut.py" 550)]), #[]⟩
noncomputable def o257 (P : Params) : Obj := ⟨(.type "function"), none, .func (FuncData.mk "digits_of" "digits_of" (fs 43).1 (.stmts (fs 43).2.1) (fs 43).2.2 3 [] .none .none .none (.str "f77.reals" 359) none (.ref 256) .none 0), #[]⟩
noncomputable def o258 (P : Params) : Obj := ⟨(.type "tuple"), none, (.seq #[] 0), #[]⟩
noncomputable def o260 (P : Params) : Obj := ⟨(.type "tuple"), none, (.seq #[(.str "op" 555), (.str "kind" 556), (.str "x" 557), (.str "y" 558), (.str "limits" 559), (.str "digits" 560), (.str "top" 561)] 0), #[]⟩
noncomputable def o261 (P : Params) : Obj := ⟨(.type "tuple"), none, (.seq #[] 0), #[]⟩
noncomputable def o262 (P : Params) : Obj := ⟨.none, none, .func (FuncData.mk "real_binary" "real_binary" (fs 44).1 (.stmts (fs 44).2.1) (fs 44).2.2 0 [] .none .none .none .none none .none .none 0), #[]⟩
noncomputable def o263 (P : Params) : Obj := ⟨(.type "code"), none, (.fields #[(.str "real_binary" 552), (.str "real_binary" 553), (.str "/claim/cut.py" 554), (.int 188 0), (.int 5 0), (.int 0 0), (.int 0 0), (.int 3 0), (.ref 258), (.bool Bool.true), (.int 181 0), (.ref 259), .none, (.ref 260), (.ref 261), (.ref 262), (.int 562 0), (.int 188 0), (.str "/claim/cut.py" 563)]), #[]⟩
noncomputable def o264 (P : Params) : Obj := ⟨(.type "function"), none, .func (FuncData.mk "real_binary" "real_binary" (fs 44).1 (.stmts (fs 44).2.1) (fs 44).2.2 3 [] .none .none .none (.str "f77.reals" 359) none (.ref 263) .none 0), #[]⟩
noncomputable def o265 (P : Params) : Obj := ⟨(.type "tuple"), none, (.seq #[(.int 1 567), (.int 0 568)] 0), #[]⟩
noncomputable def o266 (P : Params) : Obj := ⟨(.type "tuple"), none, (.seq #[(.int 0 569), (.int 0 570)] 0), #[]⟩
noncomputable def o267 (P : Params) : Obj := ⟨(.type "tuple"), none, (.seq #[(.ref 265), (.ref 266)] 0), #[]⟩
noncomputable def o268 (P : Params) : Obj := ⟨(.type "tuple"), none, (.seq #[] 0), #[]⟩
noncomputable def o270 (P : Params) : Obj := ⟨(.type "tuple"), none, (.seq #[(.str "x" 577), (.str "digits" 578), (.str "top" 579)] 0), #[]⟩
noncomputable def o271 (P : Params) : Obj := ⟨(.type "tuple"), none, (.seq #[] 0), #[]⟩
noncomputable def o272 (P : Params) : Obj := ⟨.none, none, .func (FuncData.mk "round_parts" "round_parts" (fs 48).1 (.stmts (fs 48).2.1) (fs 48).2.2 0 [] .none .none .none .none none .none .none 0), #[]⟩
noncomputable def o273 (P : Params) : Obj := ⟨(.type "code"), none, (.fields #[(.str "round_parts" 574), (.str "round_parts" 575), (.str "/claim/cut.py" 576), (.int 205 0), (.int 3 0), (.int 0 0), (.int 0 0), (.int 3 0), (.ref 268), (.bool Bool.true), (.int 181 0), (.ref 269), .none, (.ref 270), (.ref 271), (.ref 272), (.int 580 0), (.int 205 0), (.str "/claim/cut.py" 581)]), #[]⟩
noncomputable def o274 (P : Params) : Obj := ⟨(.type "function"), none, .func (FuncData.mk "round_parts" "round_parts" (fs 48).1 (.stmts (fs 48).2.1) (fs 48).2.2 3 [] .none .none .none (.str "f77.complexes" 565) none (.ref 273) .none 0), #[]⟩
noncomputable def o275 (P : Params) : Obj := ⟨(.type "tuple"), none, (.seq #[] 0), #[]⟩
noncomputable def o277 (P : Params) : Obj := ⟨(.type "tuple"), none, (.seq #[(.str "x" 586), (.str "y" 587), (.str "digits" 588), (.str "top" 589)] 0), #[]⟩
noncomputable def o278 (P : Params) : Obj := ⟨(.type "tuple"), none, (.seq #[] 0), #[]⟩
noncomputable def o279 (P : Params) : Obj := ⟨.none, none, .func (FuncData.mk "complex_add" "complex_add" (fs 49).1 (.stmts (fs 49).2.1) (fs 49).2.2 0 [] .none .none .none .none none .none .none 0), #[]⟩
noncomputable def o280 (P : Params) : Obj := ⟨(.type "code"), none, (.fields #[(.str "complex_add" 583), (.str "complex_add" 584), (.str "/claim/cut.py" 585), (.int 207 0), (.int 4 0), (.int 0 0), (.int 0 0), (.int 3 0), (.ref 275), (.bool Bool.true), (.int 181 0), (.ref 276), .none, (.ref 277), (.ref 278), (.ref 279), (.int 590 0), (.int 207 0), (.str "/claim/cut.py" 591)]), #[]⟩
noncomputable def o281 (P : Params) : Obj := ⟨(.type "function"), none, .func (FuncData.mk "complex_add" "complex_add" (fs 49).1 (.stmts (fs 49).2.1) (fs 49).2.2 3 [] .none .none .none (.str "f77.complexes" 565) none (.ref 280) .none 0), #[]⟩
noncomputable def o282 (P : Params) : Obj := ⟨(.type "tuple"), none, (.seq #[] 0), #[]⟩
noncomputable def o284 (P : Params) : Obj := ⟨(.type "tuple"), none, (.seq #[(.str "x" 596)] 0), #[]⟩
noncomputable def o285 (P : Params) : Obj := ⟨(.type "tuple"), none, (.seq #[] 0), #[]⟩
noncomputable def o286 (P : Params) : Obj := ⟨.none, none, .func (FuncData.mk "complex_neg" "complex_neg" (fs 50).1 (.stmts (fs 50).2.1) (fs 50).2.2 0 [] .none .none .none .none none .none .none 0), #[]⟩
noncomputable def o287 (P : Params) : Obj := ⟨(.type "code"), none, (.fields #[(.str "complex_neg" 593), (.str "complex_neg" 594), (.str "/claim/cut.py" 595), (.int 209 0), (.int 1 0), (.int 0 0), (.int 0 0), (.int 3 0), (.ref 282), (.bool Bool.true), (.int 181 0), (.ref 283), .none, (.ref 284), (.ref 285), (.ref 286), (.int 597 0), (.int 209 0), (.str "/claim/cut.py" 598)]), #[]⟩
noncomputable def o288 (P : Params) : Obj := ⟨(.type "function"), none, .func (FuncData.mk "complex_neg" "complex_neg" (fs 50).1 (.stmts (fs 50).2.1) (fs 50).2.2 3 [] .none .none .none (.str "f77.complexes" 565) none (.ref 287) .none 0), #[]⟩
noncomputable def o289 (P : Params) : Obj := ⟨(.type "tuple"), none, (.seq #[] 0), #[]⟩
noncomputable def o291 (P : Params) : Obj := ⟨(.type "tuple"), none, (.seq #[(.str "x" 603), (.str "y" 604), (.str "digits" 605), (.str "top" 606)] 0), #[]⟩
noncomputable def o292 (P : Params) : Obj := ⟨(.type "tuple"), none, (.seq #[] 0), #[]⟩
noncomputable def o293 (P : Params) : Obj := ⟨.none, none, .func (FuncData.mk "complex_sub" "complex_sub" (fs 51).1 (.stmts (fs 51).2.1) (fs 51).2.2 0 [] .none .none .none .none none .none .none 0), #[]⟩
noncomputable def o294 (P : Params) : Obj := ⟨(.type "code"), none, (.fields #[(.str "complex_sub" 600), (.str "complex_sub" 601), (.str "/claim/cut.py" 602), (.int 211 0), (.int 4 0), (.int 0 0), (.int 0 0), (.int 3 0), (.ref 289), (.bool Bool.true), (.int 181 0), (.ref 290), .none, (.ref 291), (.ref 292), (.ref 293), (.int 607 0), (.int 211 0), (.str "/claim/cut.py" 608)]), #[]⟩
noncomputable def o295 (P : Params) : Obj := ⟨(.type "function"), none, .func (FuncData.mk "complex_sub" "complex_sub" (fs 51).1 (.stmts (fs 51).2.1) (fs 51).2.2 3 [] .none .none .none (.str "f77.complexes" 565) none (.ref 294) .none 0), #[]⟩
noncomputable def o296 (P : Params) : Obj := ⟨(.type "tuple"), none, (.seq #[] 0), #[]⟩
noncomputable def o298 (P : Params) : Obj := ⟨(.type "tuple"), none, (.seq #[(.str "x" 613), (.str "y" 614), (.str "across" 615)] 0), #[]⟩
noncomputable def o299 (P : Params) : Obj := ⟨(.type "tuple"), none, (.seq #[] 0), #[]⟩
noncomputable def o300 (P : Params) : Obj := ⟨.none, none, .func (FuncData.mk "exact_product" "exact_product" (fs 52).1 (.stmts (fs 52).2.1) (fs 52).2.2 0 [] .none .none .none .none none .none .none 0), #[]⟩
noncomputable def o301 (P : Params) : Obj := ⟨(.type "code"), none, (.fields #[(.str "exact_product" 610), (.str "exact_product" 611), (.str "/claim/cut.py" 612), (.int 213 0), (.int 2 0), (.int 0 0), (.int 0 0), (.int 3 0), (.ref 296), (.bool Bool.true), (.int 181 0), (.ref 297), .none, (.ref 298), (.ref 299), (.ref 300), (.int 616 0), (.int 213 0), (.str "/claim/cut.py" 617)]), #[]⟩
noncomputable def o302 (P : Params) : Obj := ⟨(.type "function"), none, .func (FuncData.mk "exact_product" "exact_product" (fs 52).1 (.stmts (fs 52).2.1) (fs 52).2.2 3 [] .none .none .none (.str "f77.complexes" 565) none (.ref 301) .none 0), #[]⟩
noncomputable def o303 (P : Params) : Obj := ⟨(.type "tuple"), none, (.seq #[] 0), #[]⟩
noncomputable def o305 (P : Params) : Obj := ⟨(.type "tuple"), none, (.seq #[(.str "x" 622), (.str "y" 623), (.str "digits" 624), (.str "top" 625)] 0), #[]⟩
noncomputable def o306 (P : Params) : Obj := ⟨(.type "tuple"), none, (.seq #[] 0), #[]⟩
noncomputable def o307 (P : Params) : Obj := ⟨.none, none, .func (FuncData.mk "complex_mul" "complex_mul" (fs 53).1 (.stmts (fs 53).2.1) (fs 53).2.2 0 [] .none .none .none .none none .none .none 0), #[]⟩
noncomputable def o308 (P : Params) : Obj := ⟨(.type "code"), none, (.fields #[(.str "complex_mul" 619), (.str "complex_mul" 620), (.str "/claim/cut.py" 621), (.int 216 0), (.int 4 0), (.int 0 0), (.int 0 0), (.int 3 0), (.ref 303), (.bool Bool.true), (.int 181 0), (.ref 304), .none, (.ref 305), (.ref 306), (.ref 307), (.int 626 0), (.int 216 0), (.str "/claim/cut.py" 627)]), #[]⟩
noncomputable def o309 (P : Params) : Obj := ⟨(.type "function"), none, .func (FuncData.mk "complex_mul" "complex_mul" (fs 53).1 (.stmts (fs 53).2.1) (fs 53).2.2 3 [] .none .none .none (.str "f77.complexes" 565) none (.ref 308) .none 0), #[]⟩
noncomputable def o310 (P : Params) : Obj := ⟨(.type "tuple"), none, (.seq #[] 0), #[]⟩
noncomputable def o312 (P : Params) : Obj := ⟨(.type "tuple"), none, (.seq #[(.str "x" 632), (.str "y" 633), (.str "digits" 634), (.str "top" 635), (.str "size" 636), (.str "whole" 637), (.str "across" 638), (.str "upward" 639)] 0), #[]⟩
noncomputable def o313 (P : Params) : Obj := ⟨(.type "tuple"), none, (.seq #[] 0), #[]⟩
noncomputable def o314 (P : Params) : Obj := ⟨.none, none, .func (FuncData.mk "complex_div" "complex_div" (fs 54).1 (.stmts (fs 54).2.1) (fs 54).2.2 0 [] .none .none .none .none none .none .none 0), #[]⟩
noncomputable def o315 (P : Params) : Obj := ⟨(.type "code"), none, (.fields #[(.str "complex_div" 629), (.str "complex_div" 630), (.str "/claim/cut.py" 631), (.int 218 0), (.int 4 0), (.int 0 0), (.int 0 0), (.int 3 0), (.ref 310), (.bool Bool.true), (.int 181 0), (.ref 311), .none, (.ref 312), (.ref 313), (.ref 314), (.int 640 0), (.int 218 0), (.str "/claim/cut.py" 641)]), #[]⟩
noncomputable def o316 (P : Params) : Obj := ⟨(.type "function"), none, .func (FuncData.mk "complex_div" "complex_div" (fs 54).1 (.stmts (fs 54).2.1) (fs 54).2.2 3 [] .none .none .none (.str "f77.complexes" 565) none (.ref 315) .none 0), #[]⟩
noncomputable def o317 (P : Params) : Obj := ⟨(.type "tuple"), none, (.seq #[] 0), #[]⟩
noncomputable def o319 (P : Params) : Obj := ⟨(.type "tuple"), none, (.seq #[(.str "x" 646), (.str "y" 647), (.str "digits" 648), (.str "found" 649), (.str "more" 650)] 0), #[]⟩
noncomputable def o320 (P : Params) : Obj := ⟨(.type "tuple"), none, (.seq #[] 0), #[]⟩
noncomputable def o321 (P : Params) : Obj := ⟨.none, none, .func (FuncData.mk "guarded_product" "guarded_product" (fs 55).1 (.stmts (fs 55).2.1) (fs 55).2.2 0 [] .none .none .none .none none .none .none 0), #[]⟩
noncomputable def o322 (P : Params) : Obj := ⟨(.type "code"), none, (.fields #[(.str "guarded_product" 643), (.str "guarded_product" 644), (.str "/claim/cut.py" 645), (.int 226 0), (.int 3 0), (.int 0 0), (.int 0 0), (.int 3 0), (.ref 317), (.bool Bool.true), (.int 181 0), (.ref 318), .none, (.ref 319), (.ref 320), (.ref 321), (.int 651 0), (.int 226 0), (.str "/claim/cut.py" 652)]), #[]⟩
noncomputable def o323 (P : Params) : Obj := ⟨(.type "function"), none, .func (FuncData.mk "guarded_product" "guarded_product" (fs 55).1 (.stmts (fs 55).2.1) (fs 55).2.2 3 [] .none .none .none (.str "f77.complexes" 565) none (.ref 322) .none 0), #[]⟩
noncomputable def o324 (P : Params) : Obj := ⟨(.type "tuple"), none, (.seq #[] 0), #[]⟩
noncomputable def o326 (P : Params) : Obj := ⟨(.type "tuple"), none, (.seq #[(.str "x" 657), (.str "n" 658), (.str "digits" 659), (.str "found" 660), (.str "turn" 661)] 0), #[]⟩
noncomputable def o327 (P : Params) : Obj := ⟨(.type "tuple"), none, (.seq #[] 0), #[]⟩
noncomputable def o328 (P : Params) : Obj := ⟨.none, none, .func (FuncData.mk "complex_raised" "complex_raised" (fs 56).1 (.stmts (fs 56).2.1) (fs 56).2.2 0 [] .none .none .none .none none .none .none 0), #[]⟩
noncomputable def o329 (P : Params) : Obj := ⟨(.type "code"), none, (.fields #[(.str "complex_raised" 654), (.str "complex_raised" 655), (.str "/claim/cut.py" 656), (.int 230 0), (.int 3 0), (.int 0 0), (.int 0 0), (.int 3 0), (.ref 324), (.bool Bool.true), (.int 181 0), (.ref 325), .none, (.ref 326), (.ref 327), (.ref 328), (.int 662 0), (.int 230 0), (.str "/claim/cut.py" 663)]), #[]⟩
noncomputable def o330 (P : Params) : Obj := ⟨(.type "function"), none, .func (FuncData.mk "complex_raised" "complex_raised" (fs 56).1 (.stmts (fs 56).2.1) (fs 56).2.2 3 [] .none .none .none (.str "f77.complexes" 565) none (.ref 329) .none 0), #[]⟩
noncomputable def o331 (P : Params) : Obj := ⟨(.type "tuple"), none, (.seq #[] 0), #[]⟩
noncomputable def o333 (P : Params) : Obj := ⟨(.type "tuple"), none, (.seq #[(.str "x" 668), (.str "n" 669), (.str "digits" 670), (.str "top" 671), (.str "found" 672)] 0), #[]⟩
noncomputable def o334 (P : Params) : Obj := ⟨(.type "tuple"), none, (.seq #[] 0), #[]⟩
noncomputable def o335 (P : Params) : Obj := ⟨.none, none, .func (FuncData.mk "complex_power" "complex_power" (fs 57).1 (.stmts (fs 57).2.1) (fs 57).2.2 0 [] .none .none .none .none none .none .none 0), #[]⟩
noncomputable def o336 (P : Params) : Obj := ⟨(.type "code"), none, (.fields #[(.str "complex_power" 665), (.str "complex_power" 666), (.str "/claim/cut.py" 667), (.int 242 0), (.int 4 0), (.int 0 0), (.int 0 0), (.int 3 0), (.ref 331), (.bool Bool.true), (.int 181 0), (.ref 332), .none, (.ref 333), (.ref 334), (.ref 335), (.int 673 0), (.int 242 0), (.str "/claim/cut.py" 674)]), #[]⟩
noncomputable def o337 (P : Params) : Obj := ⟨(.type "function"), none, .func (FuncData.mk "complex_power" "complex_power" (fs 57).1 (.stmts (fs 57).2.1) (fs 57).2.2 3 [] .none .none .none (.str "f77.complexes" 565) none (.ref 336) .none 0), #[]⟩
noncomputable def o338 (P : Params) : Obj := ⟨(.type "tuple"), none, (.seq #[] 0), #[]⟩
noncomputable def o340 (P : Params) : Obj := ⟨(.type "tuple"), none, (.seq #[(.str "op" 679), (.str "kind" 680), (.str "x" 681), (.str "y" 682), (.str "limits" 683), (.str "digits" 684), (.str "top" 685)] 0), #[]⟩
noncomputable def o341 (P : Params) : Obj := ⟨(.type "tuple"), none, (.seq #[] 0), #[]⟩
noncomputable def o342 (P : Params) : Obj := ⟨.none, none, .func (FuncData.mk "complex_binary" "complex_binary" (fs 58).1 (.stmts (fs 58).2.1) (fs 58).2.2 0 [] .none .none .none .none none .none .none 0), #[]⟩
noncomputable def o343 (P : Params) : Obj := ⟨(.type "code"), none, (.fields #[(.str "complex_binary" 676), (.str "complex_binary" 677), (.str "/claim/cut.py" 678), (.int 247 0), (.int 5 0), (.int 0 0), (.int 0 0), (.int 3 0), (.ref 338), (.bool Bool.true), (.int 181 0), (.ref 339), .none, (.ref 340), (.ref 341), (.ref 342), (.int 686 0), (.int 247 0), (.str "/claim/cut.py" 687)]), #[]⟩
noncomputable def o344 (P : Params) : Obj := ⟨(.type "function"), none, .func (FuncData.mk "complex_binary" "complex_binary" (fs 58).1 (.stmts (fs 58).2.1) (fs 58).2.2 3 [] .none .none .none (.str "f77.complexes" 565) none (.ref 343) .none 0), #[]⟩
noncomputable def o345 (P : Params) : Obj := ⟨(.type "tuple"), none, (.seq #[] 0), #[]⟩
noncomputable def o347 (P : Params) : Obj := ⟨(.type "tuple"), none, (.seq #[(.str "x" 694), (.str "y" 695), (.str "wide" 696)] 0), #[]⟩
noncomputable def o348 (P : Params) : Obj := ⟨(.type "tuple"), none, (.seq #[] 0), #[]⟩
noncomputable def o349 (P : Params) : Obj := ⟨.none, none, .func (FuncData.mk "collate" "collate" (fs 60).1 (.stmts (fs 60).2.1) (fs 60).2.2 0 [] .none .none .none .none none .none .none 0), #[]⟩
noncomputable def o350 (P : Params) : Obj := ⟨(.type "code"), none, (.fields #[(.str "collate" 691), (.str "collate" 692), (.str "/claim/cut.py" 693), (.int 266 0), (.int 2 0), (.int 0 0), (.int 0 0), (.int 3 0), (.ref 345), (.bool Bool.true), (.int 181 0), (.ref 346), .none, (.ref 347), (.ref 348), (.ref 349), (.int 697 0), (.int 266 0), (.str "/claim/cut.py" 698)]), #[]⟩
noncomputable def o351 (P : Params) : Obj := ⟨(.type "function"), none, .func (FuncData.mk "collate" "collate" (fs 60).1 (.stmts (fs 60).2.1) (fs 60).2.2 3 [] .none .none .none (.str "f77.operate" 689) none (.ref 350) .none 0), #[]⟩
noncomputable def o352 (P : Params) : Obj := ⟨(.type "tuple"), none, (.seq #[] 0), #[]⟩
noncomputable def o354 (P : Params) : Obj := ⟨(.type "tuple"), none, (.seq #[(.str "op" 703), (.str "kind" 704), (.str "x" 705), (.str "y" 706), (.str "limits" 707)] 0), #[]⟩
noncomputable def o355 (P : Params) : Obj := ⟨(.type "tuple"), none, (.seq #[] 0), #[]⟩
noncomputable def o356 (P : Params) : Obj := ⟨.none, none, .func (FuncData.mk "text_binary" "text_binary" (fs 61).1 (.stmts (fs 61).2.1) (fs 61).2.2 0 [] .none .none .none .none none .none .none 0), #[]⟩
noncomputable def o357 (P : Params) : Obj := ⟨(.type "code"), none, (.fields #[(.str "text_binary" 700), (.str "text_binary" 701), (.str "/claim/cut.py" 702), (.int 269 0), (.int 5 0), (.int 0 0), (.int 0 0), (.int 3 0), (.ref 352), (.bool Bool.true), (.int 181 0), (.ref 353), .none, (.ref 354), (.ref 355), (.ref 356), (.int 708 0), (.int 269 0), (.str "/claim/cut.py" 709)]), #[]⟩
noncomputable def o358 (P : Params) : Obj := ⟨(.type "function"), none, .func (FuncData.mk "text_binary" "text_binary" (fs 61).1 (.stmts (fs 61).2.1) (fs 61).2.2 3 [] .none .none .none (.str "f77.operate" 689) none (.ref 357) .none 0), #[]⟩
noncomputable def o359 (P : Params) : Obj := ⟨(.type "tuple"), none, (.seq #[] 0), #[]⟩
noncomputable def o361 (P : Params) : Obj := ⟨(.type "tuple"), none, (.seq #[(.str "op" 714), (.str "kind" 715), (.str "x" 716), (.str "y" 717), (.str "limits" 718)] 0), #[]⟩
noncomputable def o362 (P : Params) : Obj := ⟨(.type "tuple"), none, (.seq #[] 0), #[]⟩
noncomputable def o363 (P : Params) : Obj := ⟨.none, none, .func (FuncData.mk "binary" "binary" (fs 62).1 (.stmts (fs 62).2.1) (fs 62).2.2 0 [] .none .none .none .none none .none .none 0), #[]⟩
noncomputable def o364 (P : Params) : Obj := ⟨(.type "code"), none, (.fields #[(.str "binary" 711), (.str "binary" 712), (.str "/claim/cut.py" 713), (.int 273 0), (.int 5 0), (.int 0 0), (.int 0 0), (.int 3 0), (.ref 359), (.bool Bool.true), (.int 181 0), (.ref 360), .none, (.ref 361), (.ref 362), (.ref 363), (.int 719 0), (.int 273 0), (.str "/claim/cut.py" 720)]), #[]⟩
noncomputable def o365 (P : Params) : Obj := ⟨(.type "function"), none, .func (FuncData.mk "binary" "binary" (fs 62).1 (.stmts (fs 62).2.1) (fs 62).2.2 3 [] .none .none .none (.str "f77.operate" 689) none (.ref 364) .none 0), #[]⟩
noncomputable def o366 (P : Params) : Obj := ⟨(.type "tuple"), none, (.seq #[] 0), #[]⟩
noncomputable def o368 (P : Params) : Obj := ⟨(.type "tuple"), none, (.seq #[(.str "op" 725), (.str "kind" 726), (.str "x" 727), (.str "limits" 728)] 0), #[]⟩
noncomputable def o369 (P : Params) : Obj := ⟨(.type "tuple"), none, (.seq #[] 0), #[]⟩
noncomputable def o370 (P : Params) : Obj := ⟨.none, none, .func (FuncData.mk "unary" "unary" (fs 63).1 (.stmts (fs 63).2.1) (fs 63).2.2 0 [] .none .none .none .none none .none .none 0), #[]⟩
noncomputable def o371 (P : Params) : Obj := ⟨(.type "code"), none, (.fields #[(.str "unary" 722), (.str "unary" 723), (.str "/claim/cut.py" 724), (.int 285 0), (.int 4 0), (.int 0 0), (.int 0 0), (.int 3 0), (.ref 366), (.bool Bool.true), (.int 181 0), (.ref 367), .none, (.ref 368), (.ref 369), (.ref 370), (.int 729 0), (.int 285 0), (.str "/claim/cut.py" 730)]), #[]⟩
noncomputable def o372 (P : Params) : Obj := ⟨(.type "function"), none, .func (FuncData.mk "unary" "unary" (fs 63).1 (.stmts (fs 63).2.1) (fs 63).2.2 3 [] .none .none .none (.str "f77.operate" 689) none (.ref 371) .none 0), #[]⟩
noncomputable def o373 (P : Params) : Obj := ⟨(.type "tuple"), none, (.seq #[] 0), #[]⟩
noncomputable def o375 (P : Params) : Obj := ⟨(.type "tuple"), none, (.seq #[(.str "value" 735), (.str "of" 736), (.str "to" 737), (.str "limits" 738), (.str "digits" 739)] 0), #[]⟩
noncomputable def o376 (P : Params) : Obj := ⟨(.type "tuple"), none, (.seq #[] 0), #[]⟩
noncomputable def o377 (P : Params) : Obj := ⟨.none, none, .func (FuncData.mk "real_as" "real_as" (fs 64).1 (.stmts (fs 64).2.1) (fs 64).2.2 0 [] .none .none .none .none none .none .none 0), #[]⟩
noncomputable def o378 (P : Params) : Obj := ⟨(.type "code"), none, (.fields #[(.str "real_as" 732), (.str "real_as" 733), (.str "/claim/cut.py" 734), (.int 295 0), (.int 4 0), (.int 0 0), (.int 0 0), (.int 3 0), (.ref 373), (.bool Bool.true), (.int 181 0), (.ref 374), .none, (.ref 375), (.ref 376), (.ref 377), (.int 740 0), (.int 295 0), (.str "/claim/cut.py" 741)]), #[]⟩
noncomputable def o379 (P : Params) : Obj := ⟨(.type "function"), none, .func (FuncData.mk "real_as" "real_as" (fs 64).1 (.stmts (fs 64).2.1) (fs 64).2.2 3 [] .none .none .none (.str "f77.operate" 689) none (.ref 378) .none 0), #[]⟩
noncomputable def o380 (P : Params) : Obj := ⟨(.type "tuple"), none, (.seq #[] 0), #[]⟩
noncomputable def o382 (P : Params) : Obj := ⟨(.type "tuple"), none, (.seq #[(.str "value" 746), (.str "of" 747), (.str "to" 748), (.str "limits" 749)] 0), #[]⟩
noncomputable def o383 (P : Params) : Obj := ⟨(.type "tuple"), none, (.seq #[] 0), #[]⟩
noncomputable def o384 (P : Params) : Obj := ⟨.none, none, .func (FuncData.mk "convert" "convert" (fs 65).1 (.stmts (fs 65).2.1) (fs 65).2.2 0 [] .none .none .none .none none .none .none 0), #[]⟩
noncomputable def o385 (P : Params) : Obj := ⟨(.type "code"), none, (.fields #[(.str "convert" 743), (.str "convert" 744), (.str "/claim/cut.py" 745), (.int 302 0), (.int 4 0), (.int 0 0), (.int 0 0), (.int 3 0), (.ref 380), (.bool Bool.true), (.int 181 0), (.ref 381), .none, (.ref 382), (.ref 383), (.ref 384), (.int 750 0), (.int 302 0), (.str "/claim/cut.py" 751)]), #[]⟩
noncomputable def o386 (P : Params) : Obj := ⟨(.type "function"), none, .func (FuncData.mk "convert" "convert" (fs 65).1 (.stmts (fs 65).2.1) (fs 65).2.2 3 [] .none .none .none (.str "f77.operate" 689) none (.ref 385) .none 0), #[]⟩
noncomputable def o388 (P : Params) : Obj := ⟨(.type "builtin_function_or_method"), none, (.fields #[(.builtin "type.__prepare__"), (.type "type")]), #[]⟩
noncomputable def o389 (P : Params) : Obj := ⟨(.type "dict"), none, (.dict #[(DictEntry.mk (PyData.keyHash P "__module__") (.str "__module__" 762) (.str "f77.limits" 753)), (DictEntry.mk (PyData.keyHash P "__qualname__") (.str "__qualname__" 764) (.str "Limits" 763)), (DictEntry.mk (PyData.keyHash P "__firstlineno__") (.str "__firstlineno__" 766) (.int 315 765)), (DictEntry.mk (PyData.keyHash P "__init__") (.str "__init__" 789) (.ref 401)), (DictEntry.mk (PyData.keyHash P "__static_attributes__") (.str "__static_attributes__" 798) (.ref 402))] 5), #[]⟩
noncomputable def o392 (P : Params) : Obj := ⟨(.type "code"), none, (.fields #[(.str "Limits" 757), (.str "Limits" 758), (.str "/claim/cut.py" 759), (.int 315 0), (.int 0 0), (.int 0 0), (.int 0 0), (.int 0 0), (.ref 390), (.bool Bool.false), (.int 181 0), (.ref 391), .none, .none, .none, .none, (.int 760 0), (.int 315 0), (.str "/claim/cut.py" 761)]), #[]⟩
noncomputable def o393 (P : Params) : Obj := ⟨(.type "frame"), none, .plain, #[(some (.ref 392)), (some (.ref 3)), (some (.ref 389)), none, (some (.str "f77.limits" 753)), none, (some (.ref 0))]⟩
noncomputable def o394 (P : Params) : Obj := ⟨(.type "tuple"), none, (.seq #[(.int 32 767), (.int 7 768), (.int 15 769), (.int 38 770), (.int 1000000 771), (.int 19 772), (.int 72 773), (.int 40 774)] 0), #[]⟩
noncomputable def o395 (P : Params) : Obj := ⟨(.type "tuple"), none, (.seq #[] 0), #[]⟩
noncomputable def o397 (P : Params) : Obj := ⟨(.type "tuple"), none, (.seq #[(.str "self" 778), (.str "width" 779), (.str "real_digits" 780), (.str "double_digits" 781), (.str "top_exponent" 782), (.str "steps" 783), (.str "continuations" 784), (.str "columns" 785), (.str "depth" 786)] 0), #[]⟩
noncomputable def o398 (P : Params) : Obj := ⟨(.type "tuple"), none, (.seq #[] 0), #[]⟩
noncomputable def o399 (P : Params) : Obj := ⟨.none, none, .func (FuncData.mk "__init__" "Limits.__init__" (cs 67 0).1 (.stmts (cs 67 0).2.1) (cs 67 0).2.2 0 [] .none .none .none .none none .none .none 0), #[]⟩
noncomputable def o400 (P : Params) : Obj := ⟨(.type "code"), none, (.fields #[(.str "__init__" 775), (.str "Limits.__init__" 776), (.str "/claim/cut.py" 777), (.int 317 0), (.int 9 0), (.int 0 0), (.int 0 0), (.int 3 0), (.ref 395), (.bool Bool.true), (.int 181 0), (.ref 396), .none, (.ref 397), (.ref 398), (.ref 399), (.int 787 0), (.int 317 0), (.str "/claim/cut.py" 788)]), #[]⟩
noncomputable def o401 (P : Params) : Obj := ⟨(.type "function"), none, .func (FuncData.mk "__init__" "Limits.__init__" (cs 67 0).1 (.stmts (cs 67 0).2.1) (cs 67 0).2.2 3 [] (.ref 394) .none .none (.str "f77.limits" 753) none (.ref 400) .none 0), #[]⟩
noncomputable def o402 (P : Params) : Obj := ⟨(.type "tuple"), none, (.seq #[(.str "columns" 790), (.str "continuations" 791), (.str "depth" 792), (.str "double_digits" 793), (.str "real_digits" 794), (.str "steps" 795), (.str "top_exponent" 796), (.str "width" 797)] 0), #[]⟩
noncomputable def o403 (P : Params) : Obj := ⟨(.type "dict"), none, (.dict #[(DictEntry.mk (PyData.keyHash P "__module__") (.str "__module__" 762) (.str "f77.limits" 753)), (DictEntry.mk (PyData.keyHash P "__firstlineno__") (.str "__firstlineno__" 766) (.int 315 765)), (DictEntry.mk (PyData.keyHash P "__init__") (.str "__init__" 789) (.ref 401)), (DictEntry.mk (PyData.keyHash P "__static_attributes__") (.str "__static_attributes__" 798) (.ref 402)), (DictEntry.mk (PyData.keyHash P "__dict__") (.str "__dict__" 800) (.ref 405)), (DictEntry.mk (PyData.keyHash P "__weakref__") (.str "__weakref__" 802) (.ref 406)), (DictEntry.mk (PyData.keyHash P "__doc__") (.str "__doc__" 803) .none)] 4), #[]⟩
noncomputable def o404 (P : Params) : Obj := ⟨(.type "type"), none, (.cls (PySem.ClassData.mk "Limits" [(.type "object")] [(.ref 404), (.type "object")] 403 "Limits" Bool.true [] [] Bool.false none Bool.false)), #[none, none, (some (.str "Limits" 755)), (some (.str "Limits" 763)), (some (.builtin "object.__new__")), (some (.bool Bool.true))]⟩
noncomputable def o405 (P : Params) : Obj := ⟨(.type "getset_descriptor"), none, (.fields #[(.str "__dict__" 799), (.ref 404), (.builtin "function.__dict__"), (.builtin "function.__dict__#set")]), #[]⟩
noncomputable def o406 (P : Params) : Obj := ⟨(.type "getset_descriptor"), none, (.fields #[(.str "__weakref__" 801), (.ref 404), (.builtin "ExceptionGroup.__weakref__"), .none]), #[]⟩
noncomputable def o408 (P : Params) : Obj := ⟨(.type "builtin_function_or_method"), none, (.fields #[(.builtin "object.__init_subclass__"), (.ref 404)]), #[]⟩
noncomputable def o409 (P : Params) : Obj := ⟨(.type "tuple"), none, (.seq #[] 0), #[]⟩
noncomputable def o411 (P : Params) : Obj := ⟨(.type "tuple"), none, (.seq #[(.str "nums" 811), (.str "i" 812), (.str "m" 813)] 0), #[]⟩
noncomputable def o412 (P : Params) : Obj := ⟨(.type "tuple"), none, (.seq #[] 0), #[]⟩
noncomputable def o413 (P : Params) : Obj := ⟨.none, none, .func (FuncData.mk "_law_pick" "_law_pick" (fs 69).1 (.stmts (fs 69).2.1) (fs 69).2.2 0 [] .none .none .none .none none .none .none 0), #[]⟩
noncomputable def o414 (P : Params) : Obj := ⟨(.type "code"), none, (.fields #[(.str "_law_pick" 808), (.str "_law_pick" 809), (.str "/claim/cut.py" 810), (.int 327 0), (.int 3 0), (.int 0 0), (.int 0 0), (.int 3 0), (.ref 409), (.bool Bool.true), (.int 181 0), (.ref 410), .none, (.ref 411), (.ref 412), (.ref 413), (.int 814 0), (.int 327 0), (.str "/claim/cut.py" 815)]), #[]⟩
noncomputable def o415 (P : Params) : Obj := ⟨(.type "function"), none, .func (FuncData.mk "_law_pick" "_law_pick" (fs 69).1 (.stmts (fs 69).2.1) (fs 69).2.2 3 [] .none .none .none (.str "law_no0265_01" 806) none (.ref 414) .none 0), #[]⟩
noncomputable def o416 (P : Params) : Obj := ⟨(.type "tuple"), none, (.seq #[(.int 0 817)] 0), #[]⟩
noncomputable def o417 (P : Params) : Obj := ⟨(.type "tuple"), none, (.seq #[] 0), #[]⟩
noncomputable def o419 (P : Params) : Obj := ⟨(.type "tuple"), none, (.seq #[(.str "a" 821), (.str "b" 822), (.str "digits" 823), (.str "top" 824), (.str "ten" 825), (.str "sign" 826), (.str "lead" 827), (.str "shift" 828), (.str "row" 829), (.str "rest" 830), (.str "figures" 831)] 0), #[]⟩
noncomputable def o420 (P : Params) : Obj := ⟨(.type "tuple"), none, (.seq #[] 0), #[]⟩
noncomputable def o421 (P : Params) : Obj := ⟨.none, none, .func (FuncData.mk "_law_round" "_law_round" (fs 70).1 (.stmts (fs 70).2.1) (fs 70).2.2 0 [] .none .none .none .none none .none .none 0), #[]⟩
noncomputable def o422 (P : Params) : Obj := ⟨(.type "code"), none, (.fields #[(.str "_law_round" 818), (.str "_law_round" 819), (.str "/claim/cut.py" 820), (.int 329 0), (.int 5 0), (.int 0 0), (.int 0 0), (.int 3 0), (.ref 417), (.bool Bool.true), (.int 181 0), (.ref 418), .none, (.ref 419), (.ref 420), (.ref 421), (.int 832 0), (.int 329 0), (.str "/claim/cut.py" 833)]), #[]⟩
noncomputable def o423 (P : Params) : Obj := ⟨(.type "function"), none, .func (FuncData.mk "_law_round" "_law_round" (fs 70).1 (.stmts (fs 70).2.1) (fs 70).2.2 3 [] (.ref 416) .none .none (.str "law_no0265_01" 806) none (.ref 422) .none 0), #[]⟩
noncomputable def o424 (P : Params) : Obj := ⟨(.type "tuple"), none, (.seq #[] 0), #[]⟩
noncomputable def o426 (P : Params) : Obj := ⟨(.type "tuple"), none, (.seq #[(.str "x" 838)] 0), #[]⟩
noncomputable def o427 (P : Params) : Obj := ⟨(.type "tuple"), none, (.seq #[] 0), #[]⟩
noncomputable def o428 (P : Params) : Obj := ⟨.none, none, .func (FuncData.mk "_law_fraction" "_law_fraction" (fs 71).1 (.stmts (fs 71).2.1) (fs 71).2.2 0 [] .none .none .none .none none .none .none 0), #[]⟩
noncomputable def o429 (P : Params) : Obj := ⟨(.type "code"), none, (.fields #[(.str "_law_fraction" 835), (.str "_law_fraction" 836), (.str "/claim/cut.py" 837), (.int 352 0), (.int 1 0), (.int 0 0), (.int 0 0), (.int 3 0), (.ref 424), (.bool Bool.true), (.int 181 0), (.ref 425), .none, (.ref 426), (.ref 427), (.ref 428), (.int 839 0), (.int 352 0), (.str "/claim/cut.py" 840)]), #[]⟩
noncomputable def o430 (P : Params) : Obj := ⟨(.type "function"), none, .func (FuncData.mk "_law_fraction" "_law_fraction" (fs 71).1 (.stmts (fs 71).2.1) (fs 71).2.2 3 [] .none .none .none (.str "law_no0265_01" 806) none (.ref 429) .none 0), #[]⟩
noncomputable def o431 (P : Params) : Obj := ⟨(.type "tuple"), none, (.seq #[] 0), #[]⟩
noncomputable def o433 (P : Params) : Obj := ⟨(.type "tuple"), none, (.seq #[(.str "nums" 845), (.str "i" 846), (.str "digits" 847), (.str "top" 848), (.str "v" 849), (.str "w" 850), (.str "figures" 851), (.str "lead" 852)] 0), #[]⟩
noncomputable def o434 (P : Params) : Obj := ⟨(.type "tuple"), none, (.seq #[] 0), #[]⟩
noncomputable def o435 (P : Params) : Obj := ⟨.none, none, .func (FuncData.mk "_law_real" "_law_real" (fs 72).1 (.stmts (fs 72).2.1) (fs 72).2.2 0 [] .none .none .none .none none .none .none 0), #[]⟩
noncomputable def o436 (P : Params) : Obj := ⟨(.type "code"), none, (.fields #[(.str "_law_real" 842), (.str "_law_real" 843), (.str "/claim/cut.py" 844), (.int 354 0), (.int 4 0), (.int 0 0), (.int 0 0), (.int 3 0), (.ref 431), (.bool Bool.true), (.int 181 0), (.ref 432), .none, (.ref 433), (.ref 434), (.ref 435), (.int 853 0), (.int 354 0), (.str "/claim/cut.py" 854)]), #[]⟩
noncomputable def o437 (P : Params) : Obj := ⟨(.type "function"), none, .func (FuncData.mk "_law_real" "_law_real" (fs 72).1 (.stmts (fs 72).2.1) (fs 72).2.2 3 [] .none .none .none (.str "law_no0265_01" 806) none (.ref 436) .none 0), #[]⟩
noncomputable def o438 (P : Params) : Obj := ⟨(.type "tuple"), none, (.seq #[] 0), #[]⟩
noncomputable def o440 (P : Params) : Obj := ⟨(.type "tuple"), none, (.seq #[(.str "way" 859), (.str "op" 860), (.str "kind" 861), (.str "x" 862), (.str "y" 863), (.str "limits" 864)] 0), #[]⟩
noncomputable def o441 (P : Params) : Obj := ⟨(.type "tuple"), none, (.seq #[] 0), #[]⟩
noncomputable def o442 (P : Params) : Obj := ⟨.none, none, .func (FuncData.mk "_law_heard" "_law_heard" (fs 73).1 (.stmts (fs 73).2.1) (fs 73).2.2 0 [] .none .none .none .none none .none .none 0), #[]⟩
noncomputable def o443 (P : Params) : Obj := ⟨(.type "code"), none, (.fields #[(.str "_law_heard" 856), (.str "_law_heard" 857), (.str "/claim/cut.py" 858), (.int 362 0), (.int 6 0), (.int 0 0), (.int 0 0), (.int 3 0), (.ref 438), (.bool Bool.true), (.int 181 0), (.ref 439), .none, (.ref 440), (.ref 441), (.ref 442), (.int 865 0), (.int 362 0), (.str "/claim/cut.py" 866)]), #[]⟩
noncomputable def o444 (P : Params) : Obj := ⟨(.type "function"), none, .func (FuncData.mk "_law_heard" "_law_heard" (fs 73).1 (.stmts (fs 73).2.1) (fs 73).2.2 3 [] .none .none .none (.str "law_no0265_01" 806) none (.ref 443) .none 0), #[]⟩
noncomputable def o445 (P : Params) : Obj := ⟨(.type "tuple"), none, (.seq #[] 0), #[]⟩
noncomputable def o447 (P : Params) : Obj := ⟨(.type "tuple"), none, (.seq #[(.str "a" 871), (.str "b" 872)] 0), #[]⟩
noncomputable def o448 (P : Params) : Obj := ⟨(.type "tuple"), none, (.seq #[] 0), #[]⟩
noncomputable def o449 (P : Params) : Obj := ⟨.none, none, .func (FuncData.mk "_law_cut" "_law_cut" (fs 74).1 (.stmts (fs 74).2.1) (fs 74).2.2 0 [] .none .none .none .none none .none .none 0), #[]⟩
noncomputable def o450 (P : Params) : Obj := ⟨(.type "code"), none, (.fields #[(.str "_law_cut" 868), (.str "_law_cut" 869), (.str "/claim/cut.py" 870), (.int 371 0), (.int 2 0), (.int 0 0), (.int 0 0), (.int 3 0), (.ref 445), (.bool Bool.true), (.int 181 0), (.ref 446), .none, (.ref 447), (.ref 448), (.ref 449), (.int 873 0), (.int 371 0), (.str "/claim/cut.py" 874)]), #[]⟩
noncomputable def o451 (P : Params) : Obj := ⟨(.type "function"), none, .func (FuncData.mk "_law_cut" "_law_cut" (fs 74).1 (.stmts (fs 74).2.1) (fs 74).2.2 3 [] .none .none .none (.str "law_no0265_01" 806) none (.ref 450) .none 0), #[]⟩
noncomputable def o452 (P : Params) : Obj := ⟨(.type "tuple"), none, (.seq #[] 0), #[]⟩
noncomputable def o454 (P : Params) : Obj := ⟨(.type "tuple"), none, (.seq #[(.str "n" 879), (.str "width" 880)] 0), #[]⟩
noncomputable def o455 (P : Params) : Obj := ⟨(.type "tuple"), none, (.seq #[] 0), #[]⟩
noncomputable def o456 (P : Params) : Obj := ⟨.none, none, .func (FuncData.mk "_law_fit" "_law_fit" (fs 75).1 (.stmts (fs 75).2.1) (fs 75).2.2 0 [] .none .none .none .none none .none .none 0), #[]⟩
noncomputable def o457 (P : Params) : Obj := ⟨(.type "code"), none, (.fields #[(.str "_law_fit" 876), (.str "_law_fit" 877), (.str "/claim/cut.py" 878), (.int 373 0), (.int 2 0), (.int 0 0), (.int 0 0), (.int 3 0), (.ref 452), (.bool Bool.true), (.int 181 0), (.ref 453), .none, (.ref 454), (.ref 455), (.ref 456), (.int 881 0), (.int 373 0), (.str "/claim/cut.py" 882)]), #[]⟩
noncomputable def o458 (P : Params) : Obj := ⟨(.type "function"), none, .func (FuncData.mk "_law_fit" "_law_fit" (fs 75).1 (.stmts (fs 75).2.1) (fs 75).2.2 3 [] .none .none .none (.str "law_no0265_01" 806) none (.ref 457) .none 0), #[]⟩
noncomputable def o459 (P : Params) : Obj := ⟨(.type "tuple"), none, (.seq #[] 0), #[]⟩
noncomputable def o461 (P : Params) : Obj := ⟨(.type "tuple"), none, (.seq #[(.str "op" 887), (.str "x" 888), (.str "y" 889), (.str "width" 890)] 0), #[]⟩
noncomputable def o462 (P : Params) : Obj := ⟨(.type "tuple"), none, (.seq #[] 0), #[]⟩
noncomputable def o463 (P : Params) : Obj := ⟨.none, none, .func (FuncData.mk "_law_whole" "_law_whole" (fs 76).1 (.stmts (fs 76).2.1) (fs 76).2.2 0 [] .none .none .none .none none .none .none 0), #[]⟩
noncomputable def o464 (P : Params) : Obj := ⟨(.type "code"), none, (.fields #[(.str "_law_whole" 884), (.str "_law_whole" 885), (.str "/claim/cut.py" 886), (.int 375 0), (.int 4 0), (.int 0 0), (.int 0 0), (.int 3 0), (.ref 459), (.bool Bool.true), (.int 181 0), (.ref 460), .none, (.ref 461), (.ref 462), (.ref 463), (.int 891 0), (.int 375 0), (.str "/claim/cut.py" 892)]), #[]⟩
noncomputable def o465 (P : Params) : Obj := ⟨(.type "function"), none, .func (FuncData.mk "_law_whole" "_law_whole" (fs 76).1 (.stmts (fs 76).2.1) (fs 76).2.2 3 [] .none .none .none (.str "law_no0265_01" 806) none (.ref 464) .none 0), #[]⟩
noncomputable def o466 (P : Params) : Obj := ⟨(.type "tuple"), none, (.seq #[] 0), #[]⟩
noncomputable def o468 (P : Params) : Obj := ⟨(.type "tuple"), none, (.seq #[(.str "order" 897)] 0), #[]⟩
noncomputable def o469 (P : Params) : Obj := ⟨(.type "tuple"), none, (.seq #[] 0), #[]⟩
noncomputable def o470 (P : Params) : Obj := ⟨.none, none, .func (FuncData.mk "_law_relations" "_law_relations" (fs 77).1 (.stmts (fs 77).2.1) (fs 77).2.2 0 [] .none .none .none .none none .none .none 0), #[]⟩
noncomputable def o471 (P : Params) : Obj := ⟨(.type "code"), none, (.fields #[(.str "_law_relations" 894), (.str "_law_relations" 895), (.str "/claim/cut.py" 896), (.int 387 0), (.int 1 0), (.int 0 0), (.int 0 0), (.int 3 0), (.ref 466), (.bool Bool.true), (.int 181 0), (.ref 467), .none, (.ref 468), (.ref 469), (.ref 470), (.int 898 0), (.int 387 0), (.str "/claim/cut.py" 899)]), #[]⟩
noncomputable def o472 (P : Params) : Obj := ⟨(.type "function"), none, .func (FuncData.mk "_law_relations" "_law_relations" (fs 77).1 (.stmts (fs 77).2.1) (fs 77).2.2 3 [] .none .none .none (.str "law_no0265_01" 806) none (.ref 471) .none 0), #[]⟩
noncomputable def o473 (P : Params) : Obj := ⟨(.type "tuple"), none, (.seq #[] 0), #[]⟩
noncomputable def o475 (P : Params) : Obj := ⟨(.type "tuple"), none, (.seq #[(.str "x" 904), (.str "y" 905), (.str "wide" 906), (.str "k" 907), (.str "a" 908), (.str "b" 909)] 0), #[]⟩
noncomputable def o476 (P : Params) : Obj := ⟨(.type "tuple"), none, (.seq #[] 0), #[]⟩
noncomputable def o477 (P : Params) : Obj := ⟨.none, none, .func (FuncData.mk "_law_order" "_law_order" (fs 78).1 (.stmts (fs 78).2.1) (fs 78).2.2 0 [] .none .none .none .none none .none .none 0), #[]⟩
noncomputable def o478 (P : Params) : Obj := ⟨(.type "code"), none, (.fields #[(.str "_law_order" 901), (.str "_law_order" 902), (.str "/claim/cut.py" 903), (.int 389 0), (.int 2 0), (.int 0 0), (.int 0 0), (.int 3 0), (.ref 473), (.bool Bool.true), (.int 181 0), (.ref 474), .none, (.ref 475), (.ref 476), (.ref 477), (.int 910 0), (.int 389 0), (.str "/claim/cut.py" 911)]), #[]⟩
noncomputable def o479 (P : Params) : Obj := ⟨(.type "function"), none, .func (FuncData.mk "_law_order" "_law_order" (fs 78).1 (.stmts (fs 78).2.1) (fs 78).2.2 3 [] .none .none .none (.str "law_no0265_01" 806) none (.ref 478) .none 0), #[]⟩
noncomputable def o480 (P : Params) : Obj := ⟨(.type "tuple"), none, (.seq #[] 0), #[]⟩
noncomputable def o482 (P : Params) : Obj := ⟨(.type "tuple"), none, (.seq #[(.str "value" 916), (.str "of" 917), (.str "to" 918), (.str "limits" 919), (.str "x" 920), (.str "a" 921), (.str "b" 922), (.str "found" 923)] 0), #[]⟩
noncomputable def o483 (P : Params) : Obj := ⟨(.type "tuple"), none, (.seq #[] 0), #[]⟩
noncomputable def o484 (P : Params) : Obj := ⟨.none, none, .func (FuncData.mk "_law_converted" "_law_converted" (fs 79).1 (.stmts (fs 79).2.1) (fs 79).2.2 0 [] .none .none .none .none none .none .none 0), #[]⟩
noncomputable def o485 (P : Params) : Obj := ⟨(.type "code"), none, (.fields #[(.str "_law_converted" 913), (.str "_law_converted" 914), (.str "/claim/cut.py" 915), (.int 397 0), (.int 4 0), (.int 0 0), (.int 0 0), (.int 3 0), (.ref 480), (.bool Bool.true), (.int 181 0), (.ref 481), .none, (.ref 482), (.ref 483), (.ref 484), (.int 924 0), (.int 397 0), (.str "/claim/cut.py" 925)]), #[]⟩
noncomputable def o486 (P : Params) : Obj := ⟨(.type "function"), none, .func (FuncData.mk "_law_converted" "_law_converted" (fs 79).1 (.stmts (fs 79).2.1) (fs 79).2.2 3 [] .none .none .none (.str "law_no0265_01" 806) none (.ref 485) .none 0), #[]⟩
noncomputable def o487 (P : Params) : Obj := ⟨(.type "tuple"), none, (.seq #[] 0), #[]⟩
noncomputable def o489 (P : Params) : Obj := ⟨(.type "tuple"), none, (.seq #[(.str "script" 930), (.str "nums" 931), (.str "width" 932), (.str "top" 933), (.str "limits" 934), (.str "x" 935), (.str "y" 936), (.str "op" 937), (.str "n" 938), (.str "a" 939), (.str "b" 940), (.str "texts" 941), (.str "i" 942), (.str "row" 943), (.str "k" 944), (.str "order" 945), (.str "told" 946), (.str "kind" 947), (.str "one" 948), (.str "two" 949), (.str "due" 950), (.str "rows" 951), (.str "real" 952), (.str "double" 953), (.str "values" 954), (.str "of" 955), (.str "value" 956), (.str "to" 957)] 0), #[]⟩
noncomputable def o490 (P : Params) : Obj := ⟨(.type "tuple"), none, (.seq #[] 0), #[]⟩
noncomputable def o491 (P : Params) : Obj := ⟨.none, none, .func (FuncData.mk "law" "law" (fs 80).1 (.stmts (fs 80).2.1) (fs 80).2.2 0 [] .none .none .none .none none .none .none 0), #[]⟩
noncomputable def o492 (P : Params) : Obj := ⟨(.type "code"), none, (.fields #[(.str "law" 927), (.str "law" 928), (.str "/claim/cut.py" 929), (.int 410 0), (.int 1 0), (.int 0 0), (.int 0 0), (.int 3 0), (.ref 487), (.bool Bool.true), (.int 181 0), (.ref 488), .none, (.ref 489), (.ref 490), (.ref 491), (.int 958 0), (.int 410 0), (.str "/claim/cut.py" 959)]), #[]⟩
noncomputable def o493 (P : Params) : Obj := ⟨(.type "function"), none, .func (FuncData.mk "law" "law" (fs 80).1 (.stmts (fs 80).2.1) (fs 80).2.2 3 [] .none .none .none (.str "law_no0265_01" 806) none (.ref 492) .none 0), #[]⟩
noncomputable def objp0 (P : Params) : List Obj := [boot_o_0 P, o1 P, o2 P, o3 P, ⟨(.type "module"), (some 0), .plain, #[]⟩, ⟨(.type "module"), (some 3), .plain, #[]⟩, ⟨(.type "dict"), none, (.dict #[] 0), #[]⟩, ⟨(.type "tuple"), none, (.seq #[] 0), #[]⟩, ⟨.none, none, (.fields #[]), #[]⟩, o9 P, o10 P, ⟨(.type "tuple"), none, (.seq #[] 0), #[]⟩, o12 P, o13 P, o14 P, o15 P, o16 P, o17 P, ⟨(.type "tuple"), none, (.seq #[] 0), #[]⟩, ⟨.none, none, (.fields #[(.int 4 0), (.int 4 0), (.ref 27)]), #[]⟩, o20 P, o21 P, o22 P, ⟨.none, none, (.fields #[]), #[]⟩, o24 P, o25 P, o26 P, o27 P, o28 P, o29 P, o30 P, o31 P, o32 P, ⟨(.type "super"), none, (.fields #[(.ref 31), (.ref 31), (.ref 31)]), #[]⟩, o34 P, o35 P, o36 P, o37 P, ⟨(.type "tuple"), none, (.seq #[] 0), #[]⟩, ⟨.none, none, (.fields #[]), #[]⟩, o40 P, o41 P, o42 P, o43 P, o44 P, ⟨(.type "super"), none, (.fields #[(.ref 44), (.ref 44), (.ref 44)]), #[]⟩, o46 P, o47 P, ⟨.none, none, (.fields #[]), #[]⟩, o49 P, o50 P, o51 P, o52 P, o53 P, o54 P, ⟨.none, none, (.fields #[]), #[]⟩, o56 P, o57 P, o58 P, o59 P]
noncomputable def objp1 (P : Params) : List Obj := [o60 P, o61 P, ⟨.none, none, (.fields #[]), #[]⟩, o63 P, o64 P, o65 P, o66 P, o67 P, o68 P, ⟨.none, none, (.fields #[]), #[]⟩, o70 P, o71 P, o72 P, o73 P, o74 P, o75 P, ⟨.none, none, (.fields #[]), #[]⟩, o77 P, o78 P, o79 P, o80 P, o81 P, o82 P, ⟨.none, none, (.fields #[]), #[]⟩, o84 P, o85 P, o86 P, o87 P, o88 P, o89 P, ⟨.none, none, (.fields #[]), #[]⟩, o91 P, o92 P, o93 P, o94 P, o95 P, o96 P, ⟨.none, none, (.fields #[]), #[]⟩, o98 P, o99 P, o100 P, o101 P, o102 P, o103 P, ⟨.none, none, (.fields #[]), #[]⟩, o105 P, o106 P, o107 P, o108 P, o109 P, o110 P, ⟨.none, none, (.fields #[]), #[]⟩, o112 P, o113 P, o114 P, o115 P, o116 P, o117 P, ⟨.none, none, (.fields #[]), #[]⟩, o119 P]
noncomputable def objp2 (P : Params) : List Obj := [o120 P, o121 P, o122 P, o123 P, o124 P, ⟨.none, none, (.fields #[]), #[]⟩, o126 P, o127 P, o128 P, o129 P, o130 P, o131 P, o132 P, ⟨.none, none, (.fields #[]), #[]⟩, o134 P, o135 P, o136 P, o137 P, o138 P, o139 P, ⟨.none, none, (.fields #[]), #[]⟩, o141 P, o142 P, o143 P, o144 P, o145 P, o146 P, ⟨.none, none, (.fields #[]), #[]⟩, o148 P, o149 P, o150 P, o151 P, o152 P, o153 P, ⟨.none, none, (.fields #[]), #[]⟩, o155 P, o156 P, o157 P, o158 P, o159 P, o160 P, ⟨.none, none, (.fields #[]), #[]⟩, o162 P, o163 P, o164 P, o165 P, o166 P, o167 P, ⟨.none, none, (.fields #[]), #[]⟩, o169 P, o170 P, o171 P, o172 P, o173 P, o174 P, ⟨.none, none, (.fields #[]), #[]⟩, o176 P, o177 P, o178 P, o179 P]
noncomputable def objp3 (P : Params) : List Obj := [o180 P, o181 P, ⟨.none, none, (.fields #[]), #[]⟩, o183 P, o184 P, o185 P, o186 P, o187 P, o188 P, ⟨.none, none, (.fields #[]), #[]⟩, o190 P, o191 P, o192 P, o193 P, o194 P, o195 P, ⟨.none, none, (.fields #[]), #[]⟩, o197 P, o198 P, o199 P, o200 P, o201 P, o202 P, ⟨.none, none, (.fields #[]), #[]⟩, o204 P, o205 P, o206 P, o207 P, o208 P, o209 P, ⟨.none, none, (.fields #[]), #[]⟩, o211 P, o212 P, o213 P, o214 P, o215 P, o216 P, ⟨.none, none, (.fields #[]), #[]⟩, o218 P, o219 P, o220 P, o221 P, o222 P, o223 P, ⟨.none, none, (.fields #[]), #[]⟩, o225 P, o226 P, o227 P, o228 P, o229 P, o230 P, ⟨.none, none, (.fields #[]), #[]⟩, o232 P, o233 P, o234 P, o235 P, o236 P, o237 P, ⟨.none, none, (.fields #[]), #[]⟩, o239 P]
noncomputable def objp4 (P : Params) : List Obj := [o240 P, o241 P, o242 P, o243 P, o244 P, ⟨.none, none, (.fields #[]), #[]⟩, o246 P, o247 P, o248 P, o249 P, o250 P, o251 P, ⟨.none, none, (.fields #[]), #[]⟩, o253 P, o254 P, o255 P, o256 P, o257 P, o258 P, ⟨.none, none, (.fields #[]), #[]⟩, o260 P, o261 P, o262 P, o263 P, o264 P, o265 P, o266 P, o267 P, o268 P, ⟨.none, none, (.fields #[]), #[]⟩, o270 P, o271 P, o272 P, o273 P, o274 P, o275 P, ⟨.none, none, (.fields #[]), #[]⟩, o277 P, o278 P, o279 P, o280 P, o281 P, o282 P, ⟨.none, none, (.fields #[]), #[]⟩, o284 P, o285 P, o286 P, o287 P, o288 P, o289 P, ⟨.none, none, (.fields #[]), #[]⟩, o291 P, o292 P, o293 P, o294 P, o295 P, o296 P, ⟨.none, none, (.fields #[]), #[]⟩, o298 P, o299 P]
noncomputable def objp5 (P : Params) : List Obj := [o300 P, o301 P, o302 P, o303 P, ⟨.none, none, (.fields #[]), #[]⟩, o305 P, o306 P, o307 P, o308 P, o309 P, o310 P, ⟨.none, none, (.fields #[]), #[]⟩, o312 P, o313 P, o314 P, o315 P, o316 P, o317 P, ⟨.none, none, (.fields #[]), #[]⟩, o319 P, o320 P, o321 P, o322 P, o323 P, o324 P, ⟨.none, none, (.fields #[]), #[]⟩, o326 P, o327 P, o328 P, o329 P, o330 P, o331 P, ⟨.none, none, (.fields #[]), #[]⟩, o333 P, o334 P, o335 P, o336 P, o337 P, o338 P, ⟨.none, none, (.fields #[]), #[]⟩, o340 P, o341 P, o342 P, o343 P, o344 P, o345 P, ⟨.none, none, (.fields #[]), #[]⟩, o347 P, o348 P, o349 P, o350 P, o351 P, o352 P, ⟨.none, none, (.fields #[]), #[]⟩, o354 P, o355 P, o356 P, o357 P, o358 P, o359 P]
noncomputable def objp6 (P : Params) : List Obj := [⟨.none, none, (.fields #[]), #[]⟩, o361 P, o362 P, o363 P, o364 P, o365 P, o366 P, ⟨.none, none, (.fields #[]), #[]⟩, o368 P, o369 P, o370 P, o371 P, o372 P, o373 P, ⟨.none, none, (.fields #[]), #[]⟩, o375 P, o376 P, o377 P, o378 P, o379 P, o380 P, ⟨.none, none, (.fields #[]), #[]⟩, o382 P, o383 P, o384 P, o385 P, o386 P, ⟨(.type "tuple"), none, (.seq #[] 0), #[]⟩, o388 P, o389 P, ⟨(.type "tuple"), none, (.seq #[] 0), #[]⟩, ⟨.none, none, (.fields #[(.int 317 0), (.int 4 0), (.ref 400)]), #[]⟩, o392 P, o393 P, o394 P, o395 P, ⟨.none, none, (.fields #[]), #[]⟩, o397 P, o398 P, o399 P, o400 P, o401 P, o402 P, o403 P, o404 P, o405 P, o406 P, ⟨(.type "super"), none, (.fields #[(.ref 404), (.ref 404), (.ref 404)]), #[]⟩, o408 P, o409 P, ⟨.none, none, (.fields #[]), #[]⟩, o411 P, o412 P, o413 P, o414 P, o415 P, o416 P, o417 P, ⟨.none, none, (.fields #[]), #[]⟩, o419 P]
noncomputable def objp7 (P : Params) : List Obj := [o420 P, o421 P, o422 P, o423 P, o424 P, ⟨.none, none, (.fields #[]), #[]⟩, o426 P, o427 P, o428 P, o429 P, o430 P, o431 P, ⟨.none, none, (.fields #[]), #[]⟩, o433 P, o434 P, o435 P, o436 P, o437 P, o438 P, ⟨.none, none, (.fields #[]), #[]⟩, o440 P, o441 P, o442 P, o443 P, o444 P, o445 P, ⟨.none, none, (.fields #[]), #[]⟩, o447 P, o448 P, o449 P, o450 P, o451 P, o452 P, ⟨.none, none, (.fields #[]), #[]⟩, o454 P, o455 P, o456 P, o457 P, o458 P, o459 P, ⟨.none, none, (.fields #[]), #[]⟩, o461 P, o462 P, o463 P, o464 P, o465 P, o466 P, ⟨.none, none, (.fields #[]), #[]⟩, o468 P, o469 P, o470 P, o471 P, o472 P, o473 P, ⟨.none, none, (.fields #[]), #[]⟩, o475 P, o476 P, o477 P, o478 P, o479 P]
noncomputable def objp8 (P : Params) : List Obj := [o480 P, ⟨.none, none, (.fields #[]), #[]⟩, o482 P, o483 P, o484 P, o485 P, o486 P, o487 P, ⟨.none, none, (.fields #[]), #[]⟩, o489 P, o490 P, o491 P, o492 P, o493 P]
noncomputable def objs1 (P : Params) : List Obj := objp0 P ++ (objp1 P ++ (objp2 P ++ (objp3 P ++ (objp4 P ++ (objp5 P ++ (objp6 P ++ (objp7 P ++ (objp8 P))))))))
noncomputable def hd.heap_39 : Params → Frag := fun P => (nat_lit 2, o2 P) :: (nat_lit 3, o3 P) :: (nat_lit 15, o15 P) :: (nat_lit 22, o22 P) :: (nat_lit 24, o24 P) :: (nat_lit 25, o25 P) :: (nat_lit 27, o27 P) :: (nat_lit 28, o28 P) :: (nat_lit 29, o29 P) :: (nat_lit 30, o30 P) :: (nat_lit 31, o31 P) :: (nat_lit 32, o32 P) :: (nat_lit 35, o35 P) :: (nat_lit 42, o42 P) :: (nat_lit 43, o43 P) :: (nat_lit 44, o44 P) :: (nat_lit 47, o47 P) :: (nat_lit 49, o49 P) :: (nat_lit 50, o50 P) :: (nat_lit 52, o52 P) :: (nat_lit 53, o53 P) :: (nat_lit 54, o54 P) :: (nat_lit 56, o56 P) :: (nat_lit 57, o57 P) :: (nat_lit 59, o59 P) :: (nat_lit 60, o60 P) :: (nat_lit 61, o61 P) :: (nat_lit 63, o63 P) :: (nat_lit 64, o64 P) :: (nat_lit 66, o66 P) :: (nat_lit 67, o67 P) :: (nat_lit 68, o68 P) :: (nat_lit 70, o70 P) :: (nat_lit 71, o71 P) :: (nat_lit 73, o73 P) :: (nat_lit 74, o74 P) :: (nat_lit 75, o75 P) :: (nat_lit 77, o77 P) :: (nat_lit 78, o78 P) :: (nat_lit 80, o80 P) :: (nat_lit 81, o81 P) :: (nat_lit 82, o82 P) :: (nat_lit 84, o84 P) :: (nat_lit 85, o85 P) :: (nat_lit 87, o87 P) :: (nat_lit 88, o88 P) :: (nat_lit 89, o89 P) :: (nat_lit 91, o91 P) :: (nat_lit 92, o92 P) :: (nat_lit 94, o94 P) :: (nat_lit 95, o95 P) :: (nat_lit 96, o96 P) :: (nat_lit 98, o98 P) :: (nat_lit 99, o99 P) :: (nat_lit 101, o101 P) :: (nat_lit 102, o102 P) :: (nat_lit 103, o103 P) :: (nat_lit 105, o105 P) :: (nat_lit 106, o106 P) :: (nat_lit 108, o108 P) :: (nat_lit 109, o109 P) :: (nat_lit 110, o110 P) :: (nat_lit 112, o112 P) :: (nat_lit 113, o113 P) :: (nat_lit 115, o115 P) :: (nat_lit 116, o116 P) :: (nat_lit 117, o117 P) :: (nat_lit 119, o119 P) :: (nat_lit 120, o120 P) :: (nat_lit 122, o122 P) :: (nat_lit 123, o123 P) :: (nat_lit 124, o124 P) :: (nat_lit 126, o126 P) :: (nat_lit 127, o127 P) :: (nat_lit 129, o129 P) :: (nat_lit 130, o130 P) :: (nat_lit 131, o131 P) :: (nat_lit 132, o132 P) :: (nat_lit 134, o134 P) :: (nat_lit 135, o135 P) :: (nat_lit 137, o137 P) :: (nat_lit 138, o138 P) :: (nat_lit 139, o139 P) :: (nat_lit 141, o141 P) :: (nat_lit 142, o142 P) :: (nat_lit 144, o144 P) :: (nat_lit 145, o145 P) :: (nat_lit 146, o146 P) :: (nat_lit 148, o148 P) :: (nat_lit 149, o149 P) :: (nat_lit 151, o151 P) :: (nat_lit 152, o152 P) :: (nat_lit 153, o153 P) :: (nat_lit 155, o155 P) :: (nat_lit 156, o156 P) :: (nat_lit 158, o158 P) :: (nat_lit 159, o159 P) :: (nat_lit 160, o160 P) :: (nat_lit 162, o162 P) :: (nat_lit 163, o163 P) :: (nat_lit 165, o165 P) :: (nat_lit 166, o166 P) :: (nat_lit 167, o167 P) :: (nat_lit 169, o169 P) :: (nat_lit 170, o170 P) :: (nat_lit 172, o172 P) :: (nat_lit 173, o173 P) :: (nat_lit 174, o174 P) :: (nat_lit 176, o176 P) :: (nat_lit 177, o177 P) :: (nat_lit 179, o179 P) :: (nat_lit 180, o180 P) :: (nat_lit 181, o181 P) :: (nat_lit 183, o183 P) :: (nat_lit 184, o184 P) :: (nat_lit 186, o186 P) :: (nat_lit 187, o187 P) :: (nat_lit 188, o188 P) :: (nat_lit 190, o190 P) :: (nat_lit 191, o191 P) :: (nat_lit 193, o193 P) :: (nat_lit 194, o194 P) :: (nat_lit 195, o195 P) :: (nat_lit 197, o197 P) :: (nat_lit 198, o198 P) :: (nat_lit 200, o200 P) :: (nat_lit 201, o201 P) :: (nat_lit 202, o202 P) :: (nat_lit 204, o204 P) :: (nat_lit 205, o205 P) :: (nat_lit 207, o207 P) :: (nat_lit 208, o208 P) :: (nat_lit 209, o209 P) :: (nat_lit 211, o211 P) :: (nat_lit 212, o212 P) :: (nat_lit 214, o214 P) :: (nat_lit 215, o215 P) :: (nat_lit 216, o216 P) :: (nat_lit 218, o218 P) :: (nat_lit 219, o219 P) :: (nat_lit 221, o221 P) :: (nat_lit 222, o222 P) :: (nat_lit 223, o223 P) :: (nat_lit 225, o225 P) :: (nat_lit 226, o226 P) :: (nat_lit 228, o228 P) :: (nat_lit 229, o229 P) :: (nat_lit 230, o230 P) :: (nat_lit 232, o232 P) :: (nat_lit 233, o233 P) :: (nat_lit 235, o235 P) :: (nat_lit 236, o236 P) :: (nat_lit 237, o237 P) :: (nat_lit 239, o239 P) :: (nat_lit 240, o240 P) :: (nat_lit 242, o242 P) :: (nat_lit 243, o243 P) :: (nat_lit 244, o244 P) :: (nat_lit 246, o246 P) :: (nat_lit 247, o247 P) :: (nat_lit 249, o249 P) :: (nat_lit 250, o250 P) :: (nat_lit 251, o251 P) :: (nat_lit 253, o253 P) :: (nat_lit 254, o254 P) :: (nat_lit 256, o256 P) :: (nat_lit 257, o257 P) :: (nat_lit 258, o258 P) :: (nat_lit 260, o260 P) :: (nat_lit 261, o261 P) :: (nat_lit 263, o263 P) :: (nat_lit 264, o264 P) :: (nat_lit 265, o265 P) :: (nat_lit 266, o266 P) :: (nat_lit 267, o267 P) :: (nat_lit 268, o268 P) :: (nat_lit 270, o270 P) :: (nat_lit 271, o271 P) :: (nat_lit 273, o273 P) :: (nat_lit 274, o274 P) :: (nat_lit 275, o275 P) :: (nat_lit 277, o277 P) :: (nat_lit 278, o278 P) :: (nat_lit 280, o280 P) :: (nat_lit 281, o281 P) :: (nat_lit 282, o282 P) :: (nat_lit 284, o284 P) :: (nat_lit 285, o285 P) :: (nat_lit 287, o287 P) :: (nat_lit 288, o288 P) :: (nat_lit 289, o289 P) :: (nat_lit 291, o291 P) :: (nat_lit 292, o292 P) :: (nat_lit 294, o294 P) :: (nat_lit 295, o295 P) :: (nat_lit 296, o296 P) :: (nat_lit 298, o298 P) :: (nat_lit 299, o299 P) :: (nat_lit 301, o301 P) :: (nat_lit 302, o302 P) :: (nat_lit 303, o303 P) :: (nat_lit 305, o305 P) :: (nat_lit 306, o306 P) :: (nat_lit 308, o308 P) :: (nat_lit 309, o309 P) :: (nat_lit 310, o310 P) :: (nat_lit 312, o312 P) :: (nat_lit 313, o313 P) :: (nat_lit 315, o315 P) :: (nat_lit 316, o316 P) :: (nat_lit 317, o317 P) :: (nat_lit 319, o319 P) :: (nat_lit 320, o320 P) :: (nat_lit 322, o322 P) :: (nat_lit 323, o323 P) :: (nat_lit 324, o324 P) :: (nat_lit 326, o326 P) :: (nat_lit 327, o327 P) :: (nat_lit 329, o329 P) :: (nat_lit 330, o330 P) :: (nat_lit 331, o331 P) :: (nat_lit 333, o333 P) :: (nat_lit 334, o334 P) :: (nat_lit 336, o336 P) :: (nat_lit 337, o337 P) :: (nat_lit 338, o338 P) :: (nat_lit 340, o340 P) :: (nat_lit 341, o341 P) :: (nat_lit 343, o343 P) :: (nat_lit 344, o344 P) :: (nat_lit 345, o345 P) :: (nat_lit 347, o347 P) :: (nat_lit 348, o348 P) :: (nat_lit 350, o350 P) :: (nat_lit 351, o351 P) :: (nat_lit 352, o352 P) :: (nat_lit 354, o354 P) :: (nat_lit 355, o355 P) :: (nat_lit 357, o357 P) :: (nat_lit 358, o358 P) :: (nat_lit 359, o359 P) :: (nat_lit 361, o361 P) :: (nat_lit 362, o362 P) :: (nat_lit 364, o364 P) :: (nat_lit 365, o365 P) :: (nat_lit 366, o366 P) :: (nat_lit 368, o368 P) :: (nat_lit 369, o369 P) :: (nat_lit 371, o371 P) :: (nat_lit 372, o372 P) :: (nat_lit 373, o373 P) :: (nat_lit 375, o375 P) :: (nat_lit 376, o376 P) :: (nat_lit 378, o378 P) :: (nat_lit 379, o379 P) :: (nat_lit 380, o380 P) :: (nat_lit 382, o382 P) :: (nat_lit 383, o383 P) :: (nat_lit 385, o385 P) :: (nat_lit 386, o386 P) :: (nat_lit 394, o394 P) :: (nat_lit 395, o395 P) :: (nat_lit 397, o397 P) :: (nat_lit 398, o398 P) :: (nat_lit 400, o400 P) :: (nat_lit 401, o401 P) :: (nat_lit 402, o402 P) :: (nat_lit 403, o403 P) :: (nat_lit 404, o404 P) :: (nat_lit 405, o405 P) :: (nat_lit 406, o406 P) :: (nat_lit 409, o409 P) :: (nat_lit 411, o411 P) :: (nat_lit 412, o412 P) :: (nat_lit 414, o414 P) :: (nat_lit 415, o415 P) :: (nat_lit 416, o416 P) :: (nat_lit 417, o417 P) :: (nat_lit 419, o419 P) :: (nat_lit 420, o420 P) :: (nat_lit 422, o422 P) :: (nat_lit 423, o423 P) :: (nat_lit 424, o424 P) :: (nat_lit 426, o426 P) :: (nat_lit 427, o427 P) :: (nat_lit 429, o429 P) :: (nat_lit 430, o430 P) :: (nat_lit 431, o431 P) :: (nat_lit 433, o433 P) :: (nat_lit 434, o434 P) :: (nat_lit 436, o436 P) :: (nat_lit 437, o437 P) :: (nat_lit 438, o438 P) :: (nat_lit 440, o440 P) :: (nat_lit 441, o441 P) :: (nat_lit 443, o443 P) :: (nat_lit 444, o444 P) :: (nat_lit 445, o445 P) :: (nat_lit 447, o447 P) :: (nat_lit 448, o448 P) :: (nat_lit 450, o450 P) :: (nat_lit 451, o451 P) :: (nat_lit 452, o452 P) :: (nat_lit 454, o454 P) :: (nat_lit 455, o455 P) :: (nat_lit 457, o457 P) :: (nat_lit 458, o458 P) :: (nat_lit 459, o459 P) :: (nat_lit 461, o461 P) :: (nat_lit 462, o462 P) :: (nat_lit 464, o464 P) :: (nat_lit 465, o465 P) :: (nat_lit 466, o466 P) :: (nat_lit 468, o468 P) :: (nat_lit 469, o469 P) :: (nat_lit 471, o471 P) :: (nat_lit 472, o472 P) :: (nat_lit 473, o473 P) :: (nat_lit 475, o475 P) :: (nat_lit 476, o476 P) :: (nat_lit 478, o478 P) :: (nat_lit 479, o479 P) :: (nat_lit 480, o480 P) :: (nat_lit 482, o482 P) :: (nat_lit 483, o483 P) :: (nat_lit 485, o485 P) :: (nat_lit 486, o486 P) :: (nat_lit 487, o487 P) :: (nat_lit 489, o489 P) :: (nat_lit 490, o490 P) :: (nat_lit 492, o492 P) :: (nat_lit 493, o493 P) :: []

-- the part T5
noncomputable def topRunQ (tb : String → Option Builtin) (p : Program) (w : World) (n₀ : Nat) (ann : Option Value) (n : Nat) : SharedT → Thread → Option SharedT :=
  Nat.rec (fun _ _ => none) (fun _ ih s t => match through t with
    | true => some s
    | false => match Fast.tw6613529449190102663 n₀ ann t with
      | false => none
      | true => match Fast.tw10156331382660048174 (Fast.tw11892475500146522536 tb) p w s t with
        | some (s', t') => ih s' t'
        | none => none) n
theorem topRunQ_eq {tb : String → Option Builtin} {p : Program} {w : World} {n₀ : Nat} {ann : Option Value} (n : Nat) : ∀ (s : SharedT) (t : Thread), topRunQ tb p w n₀ ann n s t = topRunT tb p w n₀ ann n s t := by
  induction n with
  | zero => intro s t; rfl
  | succ n ih =>
    intro s t
    unfold topRunT
    rw [Fast.te10156331382660048174, Fast.te11892475500146522536, Fast.te6613529449190102663]
    show (match through t with | true => some s | false => match Fast.tw6613529449190102663 n₀ ann t with | false => none | true => match Fast.tw10156331382660048174 (Fast.tw11892475500146522536 tb) p w s t with | some (s', t') => topRunQ tb p w n₀ ann n s' t' | none => none) = _
    cases through t with
    | true => rfl
    | false =>
      cases Fast.tw6613529449190102663 n₀ ann t with
      | false => rfl
      | true =>
        dsimp only
        cases Fast.tw10156331382660048174 (Fast.tw11892475500146522536 tb) p w s t with
        | none => rfl
        | some r => obtain ⟨s', t'⟩ := r; exact ih s' t'
noncomputable def S0 (w : World) (os : OsState) : SharedT := ⟨treeOf 12 (boot_heap w.params).objs.toList, 11, {}, #[], boot_drawn, boot_toks, os⟩
noncomputable def S1 (w : World) (os : OsState) : SharedT := ⟨treeOf 12 (objs1 w.params), 494, {}, #[], boot_drawn, 961, os⟩
theorem run_all : ∀ (w : World) (os : OsState), topRunQ Fast.tw14364793385576792824 PySem.Challenge.pw_no0265_01 w 11 (some (.ref 6)) 5764 (S0 w os) (topStub PySem.Challenge.pw_no0265_01) = some (S1 w os) := by intro w os; kernel_rfl

-- the part T6
noncomputable def keeps : List Nat := [1, 2, 4, 5, 6, 7, 8, 9, 10, 11, 12, 13, 14, 15, 16, 17, 18, 19, 20, 21, 23, 24, 25, 26, 27, 28, 29, 30, 31, 32, 33, 34, 35, 36, 37, 38, 39, 40, 41, 42, 43, 44, 46, 47, 48, 49, 50, 51, 52, 53, 54, 55, 56, 57, 58, 60, 61, 62, 63, 64, 65, 67, 69, 71, 72, 73, 74, 75, 76, 77, 78, 79, 80]
noncomputable def hd.view_39 : Program := view PySem.Challenge.pw_no0265_01 keeps
noncomputable def heapAs : List Addr := [2,3,15,22,24,25,27,28,29,30,31,32,35,42,43,44,47,49,50,52,53,54,56,57,59,60,61,63,64,66,67,68,70,71,73,74,75,77,78,80,81,82,84,85,87,88,89,91,92,94,95,96,98,99,101,102,103,105,106,108,109,110,112,113,115,116,117,119,120,122,123,124,126,127,129,130,131,132,134,135,137,138,139,141,142,144,145,146,148,149,151,152,153,155,156,158,159,160,162,163,165,166,167,169,170,172,173,174,176,177,179,180,181,183,184,186,187,188,190,191,193,194,195,197,198,200,201,202,204,205,207,208,209,211,212,214,215,216,218,219,221,222,223,225,226,228,229,230,232,233,235,236,237,239,240,242,243,244,246,247,249,250,251,253,254,256,257,258,260,261,263,264,265,266,267,268,270,271,273,274,275,277,278,280,281,282,284,285,287,288,289,291,292,294,295,296,298,299,301,302,303,305,306,308,309,310,312,313,315,316,317,319,320,322,323,324,326,327,329,330,331,333,334,336,337,338,340,341,343,344,345,347,348,350,351,352,354,355,357,358,359,361,362,364,365,366,368,369,371,372,373,375,376,378,379,380,382,383,385,386,394,395,397,398,400,401,402,403,404,405,406,409,411,412,414,415,416,417,419,420,422,423,424,426,427,429,430,431,433,434,436,437,438,440,441,443,444,445,447,448,450,451,452,454,455,457,458,459,461,462,464,465,466,468,469,471,472,473,475,476,478,479,480,482,483,485,486,487,489,490,492,493]
noncomputable def hk : Hook := kHook hd.heap_39 heapAs (fun _ => by kernel_rfl)
noncomputable def Hp1 (P : Params) : Heap := ⟨(objs1 P).toArray, {}⟩
noncomputable def looseNames : List Str := ["_law_round"]
theorem abs0 (P : Params) : absHeap (treeOf 12 (boot_heap P).objs.toList) 11 {} = boot_heap P := by kernel_rfl
theorem abs1 (P : Params) : absHeap (treeOf 12 (objs1 P)) 494 {} = Hp1 P := by kernel_rfl
theorem opn : ∀ w : World, (fencedOpening treeTable PySem.Challenge.pw_no0265_01 w 5764).map (fun s => (s.heap, s.gens, s.drawn, s.toks)) = some (boot_heap w.params, Array.mk [], boot_drawn, boot_toks) :=
  boot_open (by rfl) (by rfl) (fun s => rfl)
theorem size0 : ∀ w : World, ((boot_heap w.params).isNs mainGlobals && (Array.mk [] : Array GenState).size == 0, (boot_heap w.params).objs.size, (boot_heap w.params).nsMap mainGlobals "__annotations__") = (true, 11, some (.ref 6)) := by intro w; kernel_rfl
theorem run1 (w : World) (os : OsState) : topRun treeTable PySem.Challenge.pw_no0265_01 w 11 (some (.ref 6)) 5764 ⟨boot_heap w.params, Array.mk [], boot_drawn, boot_toks, os⟩ (topStub PySem.Challenge.pw_no0265_01) = some ⟨Hp1 w.params, Array.mk [], boot_drawn, 961, os⟩ := by
  have h := run_all w os
  rw [topRunQ_eq, ← Fast.te14364793385576792824] at h
  have h' := topRun_of h
  unfold S0 S1 SharedT.abs at h'
  rw [abs0, abs1] at h'
  exact h'
theorem looks1 : ∀ w : World, (fun os => ((staticsOk (importedModules PySem.Challenge.pw_no0265_01.main.body) (boot_heap w.params) (Hp1 w.params) && namesBound PySem.Challenge.pw_no0265_01 (Hp1 w.params) && gensDone ⟨Hp1 w.params, Array.mk [], boot_drawn, 961, os⟩ && laidKept (boot_heap w.params) (Hp1 w.params)))) = fun (_ : OsState) => true := by intro w; kernel_rfl

-- the part T8
noncomputable def St1 (w : World) (os : OsState) : Shared := ⟨Hp1 w.params, Array.mk [], boot_drawn, 961, os⟩
theorem l1 (w : World) (os : OsState) : seen ((recsOf hd.view_39).map (·.name)) (ownsOf hd.view_39) [] { St1 w os with gens := #[] } = expectedOf hd.view_39 := by kernel_rfl
theorem l2 (w : World) (os : OsState) : (St1 w os).heap.bltView = bltViewBooted := by kernel_rfl
theorem l3 (w : World) (os : OsState) : (St1 w os).heap.keysOk (looseW hd.view_39 looseNames) ((recsOf hd.view_39).map (·.name)) ((litsOf hd.view_39).map (·.1)) ((clssOf hd.view_39 (looseW hd.view_39 looseNames)).map (·.name)) = true := by kernel_rfl
theorem l4 (w : World) (os : OsState) : (St1 w os).heap.accountedOkI (importedModules PySem.Challenge.pw_no0265_01.main.body) = true := by kernel_rfl
theorem l5 (w : World) (os : OsState) : ((St1 w os).heap.isNs mainGlobals && (St1 w os).heap.isNs builtinsNs) = true := by kernel_rfl
theorem l6 (w : World) (os : OsState) : tablesOk hd.view_39 (St1 w os).heap = true := by kernel_rfl
theorem l7 (w : World) (os : OsState) : (xlAt hd.view_39 [] (St1 w os) && recOk (RowW.records PySem.Challenge.rw_no0265_01.row.toRowW) (St1 w os)) = true := by kernel_rfl
theorem l8 (w : World) (os : OsState) : ((St1 w os).gens.size == 0) = true := by kernel_rfl
theorem l9 (w : World) (os : OsState) : tabsOk hd.view_39 (St1 w os) = true := by kernel_rfl
theorem l10 (w : World) (os : OsState) : pinSeenD hd.view_39 (drecsOf hd.view_39) (St1 w os) = pinGoodD (drecsOf hd.view_39) := by kernel_rfl
theorem l11 (w : World) (os : OsState) : plainSeenE hd.view_39 (looseW hd.view_39 looseNames) (St1 w os) = plainGoodE hd.view_39 (looseW hd.view_39 looseNames) := by kernel_rfl
theorem l12 (w : World) (os : OsState) : plainSeenD hd.view_39 looseNames (St1 w os) = plainGoodD hd.view_39 looseNames := by kernel_rfl
theorem l13 (w : World) (os : OsState) : wideSeen hd.view_39 (St1 w os) = wideGood hd.view_39 := by kernel_rfl
theorem l14 (w : World) (os : OsState) : clsSeenW hd.view_39 looseNames (St1 w os) = clsGoodW hd.view_39 looseNames := by kernel_rfl

-- the part T9
theorem openSeen_of {q : Program} {loose mods : List Str} {Xt : Shared → Bool} {s : Shared} (h1 : seen ((recsOf q).map (·.name)) (ownsOf q) [] { s with gens := #[] } = expectedOf q) (h2 : s.heap.bltView = bltViewBooted)
    (h3 : s.heap.keysOk (looseW q loose) ((recsOf q).map (·.name)) ((litsOf q).map (·.1)) ((clssOf q (looseW q loose)).map (·.name)) = true) (h4 : s.heap.accountedOkI mods = true) (h5 : (s.heap.isNs mainGlobals && s.heap.isNs builtinsNs) = true)
    (h6 : tablesOk q s.heap = true) (h7 : Xt s = true) (h8 : (s.gens.size == 0) = true) (h9 : tabsOk q s = true) (h10 : pinSeenD q (drecsOf q) s = pinGoodD (drecsOf q)) (h11 : plainSeenE q (looseW q loose) s = plainGoodE q (looseW q loose))
    (h12 : plainSeenD q loose s = plainGoodD q loose) (h13 : wideSeen q s = wideGood q) (h14 : clsSeenW q loose s = clsGoodW q loose) : openSeen q loose mods Xt true s = openGood q loose := by
  obtain ⟨a, b⟩ := Bool.and_eq_true_iff.mp h5
  unfold openSeen openGood
  rw [h1, h2, h3, h4, a, b, h6, h7, if_pos rfl, h8, h9, h10, h11, h12, h13, h14]
  rfl
theorem looks2 (w : World) (os : OsState) : openSeen hd.view_39 looseNames (importedModules PySem.Challenge.pw_no0265_01.main.body) (fun s => xlAt hd.view_39 [] s && recOk (RowW.records PySem.Challenge.rw_no0265_01.row.toRowW) s) true (St1 w os) = openGood hd.view_39 looseNames :=
  openSeen_of (s := St1 w os) (Xt := fun s => xlAt hd.view_39 [] s && recOk (RowW.records PySem.Challenge.rw_no0265_01.row.toRowW) s) (l1 w os) (l2 w os) (l3 w os) (l4 w os) (l5 w os) (l6 w os) (l7 w os) (l8 w os) (l9 w os) (l10 w os) (l11 w os) (l12 w os) (l13 w os) (l14 w os)
theorem looks3 (w : World) (os : OsState) : hk.obs (St1 w os) = hk.val w := by kernel_rfl

-- the part T10
theorem three {α β γ : Type} {a a' : α} {b b' : β} {c c' : γ} (h1 : a = a') (h2 : b = b') (h3 : c = c') : (a, b, c) = (a', b', c') := by rw [h1, h2, h3]
theorem left9 : LeftO PySem.Challenge.pw_no0265_01 hd.view_39 looseNames (fun s => xlAt hd.view_39 [] s && recOk (RowW.records PySem.Challenge.rw_no0265_01.row.toRowW) s) hk.obs hk.val 5764 := by
  refine LeftO.of_pieces (p := PySem.Challenge.pw_no0265_01) (H₀ := boot_heap) (H₁ := Hp1) (gs₀ := Array.mk []) (gs₁ := Array.mk []) (d₀ := boot_drawn) (d₁ := boot_drawn) (k₀ := boot_toks) (k₁ := 961) (m₀ := 11) (ann := some (.ref 6)) (M := 5764) opn size0 run1 (by decide) ?_
  intro w
  funext os
  exact three (congrFun (looks1 w) os) (looks2 w os) (looks3 w os)

-- the part T11
theorem said : PySem.Challenge.rw_no0265_01.wellSaid = true := by
  unfold OpenLaw.wellSaid OpenRow.wellSaid OpenRow.partSaid looksOpen
  repeat' with_reducible refine look_both ?_ ?_
  all_goals decide +kernel

-- the part M1
/-! ## abstract values -/
inductive V where
  | d (x : PyData)
  | lim (w r d t : Int)
  | rng (n : Int)
  | rows (kvs : List (Str × Bool))
  | adr (a : Addr)

structure RC where
  at_ : Addr
  prog : Program
  w : World

noncomputable abbrev I (i : Int) : V := .d (.int i)
noncomputable abbrev B (b : Bool) : V := .d (.bool b)
noncomputable abbrev S (s : Str) : V := .d (.str s)
noncomputable abbrev NN : V := .d .none
noncomputable abbrev Sg := Str → Option V
noncomputable def upd (σ : Sg) (x : Str) (v : V) : Sg := fun y => if y = x then some v else σ y
theorem upd_same {σ : Sg} {x : Str} {v : V} : upd σ x v x = some v := if_pos rfl
theorem upd_ne {σ : Sg} {x y : Str} {v : V} (h : y ≠ x) : upd σ x v y = σ y := if_neg h

/-- what the four attributes of a Limits object are -/
noncomputable def limDict (es : List DictEntry) (w r d t : Int) : Prop :=
  (∃ k, getL "width" es = some (some (.int w k))) ∧ (∃ k, getL "real_digits" es = some (some (.int r k))) ∧
  (∃ k, getL "double_digits" es = some (some (.int d k))) ∧ ∃ k, getL "top_exponent" es = some (some (.int t k))

noncomputable def Rep (LC : RC) (hid : List Addr) (h : Heap) : V → Value → Prop
  | .d x, v => ∃ as, Reads (hideAll h hid) v x as
  | .lim w r d t, v => ∃ a dx sl es n, v = .ref a ∧ (hideAll h hid).get? a = some ⟨.ref LC.at_, some dx, .plain, sl⟩ ∧ (hideAll h hid).get? dx = some (dictOf es n) ∧ limDict es w r d t
  | .rng n, v => ∃ a t u w, v = .ref a ∧ IsRange (hideAll h hid) a 0 n 1 t u w
  | .adr a, v => v = .ref a
  | .rows kvs, v => ∃ a, v = .ref a ∧ (a == sysModules) = false ∧ (hideAll h hid).DictOf (strKind LC.prog LC.w) a (kvs.map fun p => (p.1, .bool p.2))

theorem hideAll_mono {h h' : Heap} {l l' : List Addr} (k : ∀ b o, h.get? b = some o → b ∉ l → h'.get? b = some o) (hs : ∀ b o, h.get? b = some o → b ∉ l → b ∉ l') :
    ∀ b o, (hideAll h l).get? b = some o → (hideAll h' l').get? b = some o := fun b o e => by
  have hb : b ∉ l := fun hm => by rw [hideAll_none _ hm] at e; cases e
  exact hideAll_get _ (k b o (of_hideAll _ e) hb) (hs b o (of_hideAll _ e) hb)

theorem Rep.mono {LC : RC} {l l' : List Addr} {h h' : Heap} (k : ∀ b o, (hideAll h l).get? b = some o → (hideAll h' l').get? b = some o) : ∀ {x : V} {v : Value}, Rep LC l h x v → Rep LC l' h' x v
  | .d _, _, ⟨as, r⟩ => ⟨as, Reads.keeps k r⟩
  | .lim _ _ _ _, _, ⟨a, dx, sl, es, n, e, h1, h2, h3⟩ => ⟨a, dx, sl, es, n, e, k _ _ h1, k _ _ h2, h3⟩
  | .rng _, _, ⟨a, t, u, w, e, h1⟩ => ⟨a, t, u, w, e, k _ _ h1⟩
  | .adr _, _, e => e
  | .rows _, _, ⟨a, e, h0, h1⟩ => ⟨a, e, h0, h1.keep k⟩

noncomputable def GD (x : Str) : Option V :=
  if x = "INTEGER" then some (I 0) else if x = "REAL" then some (I 1) else if x = "DOUBLE" then some (I 2) else if x = "COMPLEX" then some (I 3)
  else if x = "LOGICAL" then some (I 4) else if x = "CHARACTER" then some (I 5) else if x = "NOUGHT" then some (.d (.tuple [.int 0, .int 0])) else none

/-- the world in which all is said: the text's own objects, the heap that the call found -/
structure Cx where
  prog : Program
  w : World
  K : Frag
  H₀ : Heap
  p : Program
  loose : List Str
  mean : ExcName → Option Value
  mg : Str → Option Value
  mb : Str → Option Value
  RF : Addr
  LCa : Addr
  inK : K.In H₀
  top : Top p loose mean mg mb H₀
  imp : importsNone p = true
  tree : prog.given.tree = none
  smod : sysModules < H₀.objs.size
  gd : ∀ x d, GD x = some d → ∃ v, nsIn K mainGlobals x = some (some v) ∧ Rep ⟨LCa, prog, w⟩ [] H₀ d v

noncomputable def Cx.LC (cx : Cx) : RC := ⟨cx.LCa, cx.prog, cx.w⟩

structure Fx where
  name : Str
  sc : Scope
  L : Addr
  a : Addr
  cd : Value
  outer : List Env
  A : Around
noncomputable def Fx.env (f : Fx) : Env := envOf f.name f.sc f.L f.a f.cd
noncomputable def Fx.of (f : Fx) : List Addr := f.outer.filterMap (·.frame)

structure FxOk (cx : Cx) (f : Fx) (hid : List Addr) (k : Nat) : Prop where
  hA : f.A.frames = some (f.env :: f.outer)
  hh : f.A.handled = none
  hk : f.sc.kind = .function
  hgen : f.sc.isGenerator = false
  hco : f.sc.isCoroutine = false
  Lhid : f.L ∈ hid
  ohid : ∀ a ∈ f.of, a ∈ hid
  Lof : f.L ∉ f.of
  h0 : ∀ a ∈ hid, cx.H₀.get? a = none
  depth : f.A.depth + k + 100 < 1000
  units : f.A.units + 8 * k + 200 < 9900

noncomputable def Pres (f : Fx) (h h' : Heap) : Prop := ∀ b o, h.get? b = some o → b ≠ f.L → (b ∉ f.of → h'.get? b = some o) ∧ ∃ sl, h'.get? b = some { o with slots := sl }
theorem Pres.refl (f : Fx) (h : Heap) : Pres f h h := fun _ o e _ => ⟨fun _ => e, o.slots, e⟩
theorem Pres.trans {f : Fx} {h₁ h₂ h₃ : Heap} (x : Pres f h₁ h₂) (y : Pres f h₂ h₃) : Pres f h₁ h₃ := fun b o e n => by
  obtain ⟨x1, sl, x2⟩ := x b o e n
  refine ⟨fun hb => (y b o (x1 hb) n).1 hb, ?_⟩
  obtain ⟨_, sl', y2⟩ := y b _ x2 n
  exact ⟨sl', y2⟩
theorem Pres.of_keep {f : Fx} {h h' : Heap} (k : ∀ b o, h.get? b = some o → b ≠ f.L → h'.get? b = some o) : Pres f h h' := fun b o e n => ⟨fun _ => k b o e n, o.slots, k b o e n⟩
theorem Pres.of_keeps {f : Fx} {h h' : Heap} (k : ∀ b o, h.get? b = some o → h'.get? b = some o) : Pres f h h' := Pres.of_keep fun b o e _ => k b o e

structure Same (s s' : Shared) : Prop where
  gens : s'.gens = s.gens
  drawn : s'.drawn = s.drawn
  os : s'.os = s.os
theorem Same.refl (s : Shared) : Same s s := ⟨rfl, rfl, rfl⟩
theorem Same.trans {a b c : Shared} (x : Same a b) (y : Same b c) : Same a c := ⟨y.gens.trans x.gens, y.drawn.trans x.drawn, y.os.trans x.os⟩

structure St (cx : Cx) (f : Fx) (hid : List Addr) (h : Heap) (m : Str → Option Value) (σ : Sg) : Prop where
  fr : Fr cx.H₀ f.L h m
  env : ∀ x d, σ x = some d → ∃ v, m x = some v ∧ Rep cx.LC hid h d v
  frames : h.FunFrames cx.H₀ f.outer
  old : ∀ a ∈ hid, ∃ o, h.get? a = some o

theorem funFrames_pres {base h h' : Heap} : ∀ {l : List Env}, (∀ b ∈ l.filterMap (·.frame), ∀ o, h.get? b = some o → ∃ sl, h'.get? b = some { o with slots := sl }) → h.FunFrames base l → h'.FunFrames base l
  | [], _, _ => trivial
  | env :: l, k, ⟨hk, ⟨L, o, hf, hn, ho, hd⟩, hr⟩ => by
    have hm : L ∈ (env :: l).filterMap (·.frame) := by rw [List.filterMap_cons, hf]; exact .head _
    obtain ⟨sl, e⟩ := k L hm o ho
    refine ⟨hk, ⟨L, _, hf, hn, e, hd⟩, funFrames_pres (fun b hb => k b ?_) hr⟩
    rw [List.filterMap_cons, hf]; exact .tail _ hb

theorem vis {cx : Cx} {f : Fx} {hid : List Addr} {k : Nat} (ok : FxOk cx f hid k) {h h' : Heap} (p : Pres f h h') :
    ∀ b o, (hideAll h hid).get? b = some o → (hideAll h' hid).get? b = some o :=
  hideAll_mono (fun b o e hb => (p b o e fun q => hb (q ▸ ok.Lhid)).1 fun q => hb (ok.ohid b q)) fun _ _ _ hb => hb

theorem Rep.next {cx : Cx} {f : Fx} {hid : List Addr} {k : Nat} (ok : FxOk cx f hid k) {h h' : Heap} (p : Pres f h h') {x : V} {v : Value} (r : Rep cx.LC hid h x v) : Rep cx.LC hid h' x v := r.mono (vis ok p)

theorem St.next {cx : Cx} {f : Fx} {hid : List Addr} {k : Nat} (ok : FxOk cx f hid k) {h h' : Heap} {m m' : Str → Option Value} {σ : Sg} (s : St cx f hid h m σ) (p : Pres f h h') (F : Fr cx.H₀ f.L h' m') (hm : m' = m) : St cx f hid h' m' σ := by
  subst hm
  refine ⟨F, fun x d e => ?_, funFrames_pres (fun b hb o e => ?_) s.frames, fun a ha => ?_⟩
  · obtain ⟨v, h1, h2⟩ := s.env x d e
    exact ⟨v, h1, h2.next ok p⟩
  · exact (p b o e fun q => ok.Lof (q ▸ hb)).2
  · by_cases q : a = f.L
    · subst q; obtain ⟨o, _, _, e, _⟩ := F.ns; exact ⟨o, e⟩
    · obtain ⟨o, e⟩ := s.old a ha
      obtain ⟨sl, e'⟩ := (p a o e q).2
      exact ⟨_, e'⟩

/-! ## an exception in flight in the frame f, since the heap h -/
noncomputable def InFl (cx : Cx) (f : Fx) (h : Heap) (a : Addr) (h' : Heap) : Prop :=
  (∃ m, Fr cx.H₀ f.L h' m) ∧ Pres f h h' ∧ h.get? a = none ∧ ∃ oe vs a0, h'.get? a = some oe ∧ oe.cls = .ref cx.RF ∧ oe.data = .fields vs ∧ vs[0]? = some a0 ∧
    (vs[1]? = some .none ∨ ∃ T oT ts fl, vs[1]? = some (.ref T) ∧ h.get? T = none ∧ T ≠ a ∧ h'.get? T = some oT ∧ oT.data = .fields ts ∧ ts[3]? = some fl ∧ (fl = .none ∨ fl = rawInt f.L))

theorem fresh_back {cx : Cx} {f : Fx} {h h' : Heap} {m : Str → Option Value} (F : Fr cx.H₀ f.L h' m) (p : Pres f h h') {a : Addr} (e : h'.get? a = none) : h.get? a = none := by
  cases q : h.get? a with
  | none => rfl
  | some o =>
    by_cases hl : a = f.L
    · subst hl; obtain ⟨o, _, _, e', _⟩ := F.ns; rw [e] at e'; cases e'
    · obtain ⟨sl, e'⟩ := (p a o q hl).2; rw [e] at e'; cases e'

theorem InFl.back {cx : Cx} {f : Fx} {h h₁ h' : Heap} {m : Str → Option Value} {a : Addr} (F : Fr cx.H₀ f.L h₁ m) (p : Pres f h h₁) (x : InFl cx f h₁ a h') : InFl cx f h a h' := by
  obtain ⟨x1, x2, x3, oe, vs, a0, y1, y2, y3, y4, y5⟩ := x
  refine ⟨x1, p.trans x2, fresh_back F p x3, oe, vs, a0, y1, y2, y3, y4, y5.imp id ?_⟩
  rintro ⟨T, oT, ts, fl, z1, z2, z3⟩
  exact ⟨T, oT, ts, fl, z1, fresh_back F p z2, z3⟩

/-! ## expressions -/
noncomputable abbrev SE := Sg → (V → Prop) → Prop → Prop

noncomputable def EvQ (cx : Cx) (f : Fx) (hid : List Addr) (m : Str → Option Value) (s : Shared) (Q : V → Prop) : Value → Shared → Prop :=
  fun v s' => ∃ d, Q d ∧ Rep cx.LC hid s'.heap d v ∧ Fr cx.H₀ f.L s'.heap m ∧ Pres f s.heap s'.heap ∧ Same s s'
noncomputable def EvE (cx : Cx) (f : Fx) (s : Shared) (X : Prop) : Value → Shared → Prop :=
  fun e s' => X ∧ ∃ a, e = .ref a ∧ InFl cx f s.heap a s'.heap ∧ Same s s'

theorem EvE.back {cx : Cx} {f : Fx} {s s₁ : Shared} {X Y : Prop} {m : Str → Option Value} (F : Fr cx.H₀ f.L s₁.heap m) (p : Pres f s.heap s₁.heap) (z : Same s s₁) (xy : X → Y) {e : Value} {s' : Shared} (x : EvE cx f s₁ X e s') : EvE cx f s Y e s' := by
  obtain ⟨x1, a, x2, x3, x4⟩ := x
  exact ⟨xy x1, a, x2, x3.back F p, z.trans x4⟩
theorem EvQ.back {cx : Cx} {f : Fx} {hid : List Addr} {s s₁ : Shared} {Q : V → Prop} {m : Str → Option Value} (p : Pres f s.heap s₁.heap) (z : Same s s₁) {v : Value} {s' : Shared} (x : EvQ cx f hid m s₁ Q v s') : EvQ cx f hid m s Q v s' := by
  obtain ⟨d, x1, x2, x3, x4, x5⟩ := x
  exact ⟨d, x1, x2, x3, p.trans x4, z.trans x5⟩

noncomputable def Ev (cx : Cx) (k : Nat) (sc : Scope) (e : Expr) (T : SE) : Prop :=
  ∀ (f : Fx) (hid : List Addr) (m : Str → Option Value) (σ : Sg) (s : Shared) (Q : V → Prop) (X : Prop), f.sc = sc → FxOk cx f hid k → St cx f hid s.heap m σ → T σ Q X →
    wpAny (model cx.prog cx.w) f.A (eval e f.env) (EvQ cx f hid m s Q) (EvE cx f s X) s

/-- the walk goes on behind an expression -/
theorem Ev.then {cx : Cx} {k : Nat} {sc : Scope} {e : Expr} {T : SE} (he : Ev cx k sc e T) {f : Fx} {hid : List Addr} {m : Str → Option Value} {σ : Sg} {s : Shared} {Q : V → Prop} {X : Prop} (hs : f.sc = sc) (ok : FxOk cx f hid k) (st : St cx f hid s.heap m σ) (hT : T σ Q X)
    {P : Value → Shared → Prop} (K : ∀ v d s₁, Q d → Rep cx.LC hid s₁.heap d v → St cx f hid s₁.heap m σ → Pres f s.heap s₁.heap → Same s s₁ → P v s₁) : wpAny (model cx.prog cx.w) f.A (eval e f.env) P (EvE cx f s X) s :=
  wpAny_mono (he f hid m σ s Q X hs ok st hT) (fun v s₁ ⟨d, h1, h2, h3, h4, h5⟩ => K v d s₁ h1 h2 (st.next ok h4 h3 rfl) h4 h5) fun _ _ x => x

/-- a step behind another: its end is told from its own start -/
theorem wp_back {cx : Cx} {f : Fx} {hid : List Addr} {m : Str → Option Value} {σ : Sg} {s s₁ : Shared} {Q : V → Prop} {X : Prop} {t : Sem Value} {A : Around} (st : St cx f hid s₁.heap m σ) (p : Pres f s.heap s₁.heap) (z : Same s s₁)
    (h : wpAny (model cx.prog cx.w) A t (EvQ cx f hid m s₁ Q) (EvE cx f s₁ X) s₁) : wpAny (model cx.prog cx.w) A t (EvQ cx f hid m s Q) (EvE cx f s X) s₁ :=
  wpAny_mono h (fun _ _ x => x.back p z) fun _ _ x => x.back st.fr p z id
theorem wp_backE {cx : Cx} {f : Fx} {hid : List Addr} {m : Str → Option Value} {σ : Sg} {s s₁ : Shared} {X : Prop} {α : Type} {t : Sem α} {A : Around} {P : α → Shared → Prop} (st : St cx f hid s₁.heap m σ) (p : Pres f s.heap s₁.heap) (z : Same s s₁)
    (h : wpAny (model cx.prog cx.w) A t P (EvE cx f s₁ X) s₁) : wpAny (model cx.prog cx.w) A t P (EvE cx f s X) s₁ :=
  wpAny_mono h (fun _ _ x => x) fun _ _ x => x.back st.fr p z id


theorem Cx.read (cx : Cx) : TopRead cx.p cx.loose cx.mg cx.mb cx.H₀ := topRead_of cx.top
theorem wp_fin {cx : Cx} {f : Fx} {hid : List Addr} {m : Str → Option Value} {σ : Sg} {s s₁ s₂ : Shared} {Q : V → Prop} {X : Prop} {t : Sem Value} {A : Around} (st : St cx f hid s₂.heap m σ) (p : Pres f s.heap s₂.heap) (z : Same s s₂) (p' : Pres f s₁.heap s₂.heap) (z' : Same s₁ s₂)
    (h : wpAny (model cx.prog cx.w) A t (EvQ cx f hid m s₂ Q) (EvE cx f s₂ X) s₂) : wpAny (model cx.prog cx.w) A t (EvQ cx f hid m s Q) (EvE cx f s₁ X) s₂ :=
  wpAny_mono h (fun _ _ x => x.back p z) fun _ _ x => x.back st.fr p' z' id

-- the part M2
theorem evq {cx : Cx} {f : Fx} {hid : List Addr} {m : Str → Option Value} {σ : Sg} {s : Shared} {Q : V → Prop} (st : St cx f hid s.heap m σ) {d : V} {v : Value} (q : Q d) (r : Rep cx.LC hid s.heap d v) (tk : Nat) : EvQ cx f hid m s Q v { s with toks := tk } :=
  ⟨d, q, r, st.fr, Pres.refl _ _, ⟨rfl, rfl, rfl⟩⟩
theorem rep_int {LC : RC} {hid : List Addr} {h : Heap} (i : Int) (t : Tok) : Rep LC hid h (I i) (.int i t) := ⟨[], .int i t⟩
theorem rep_str {LC : RC} {hid : List Addr} {h : Heap} (i : Str) (t : Tok) : Rep LC hid h (S i) (.str i t) := ⟨[], .str i t⟩
theorem rep_bool {LC : RC} {hid : List Addr} {h : Heap} (b : Bool) : Rep LC hid h (B b) (.bool b) := ⟨[], .bool b⟩
theorem rep_none {LC : RC} {hid : List Addr} {h : Heap} : Rep LC hid h NN .none := ⟨[], .none⟩
theorem int_rep {LC : RC} {hid : List Addr} {h : Heap} {i : Int} {v : Value} (r : Rep LC hid h (I i) v) : ∃ t, v = .int i t := by
  obtain ⟨as, r⟩ := r; cases r; exact ⟨_, rfl⟩
theorem str_rep {LC : RC} {hid : List Addr} {h : Heap} {i : Str} {v : Value} (r : Rep LC hid h (S i) v) : ∃ t, v = .str i t := by
  obtain ⟨as, r⟩ := r; cases r; exact ⟨_, rfl⟩
theorem bool_rep {LC : RC} {hid : List Addr} {h : Heap} {i : Bool} {v : Value} (r : Rep LC hid h (B i) v) : v = .bool i := by
  obtain ⟨as, r⟩ := r; cases r; rfl
theorem none_rep {LC : RC} {hid : List Addr} {h : Heap} {v : Value} (r : Rep LC hid h NN v) : v = .none := by
  obtain ⟨as, r⟩ := r; cases r; rfl

section
variable {cx : Cx} {k : Nat} {sc : Scope}

/-! constants and names -/
theorem Ev.int {i n pos} : Ev cx k sc (.Constant (.int i) n pos) (fun _ Q _ => Q (I i)) := fun f hid m σ s Q X hs ok st h =>
  wpAny_Constant_int (evq st h (rep_int _ _) _)
theorem Ev.str {i n pos} : Ev cx k sc (.Constant (.str i) n pos) (fun _ Q _ => Q (S i)) := fun f hid m σ s Q X hs ok st h =>
  wpAny_Constant_str (evq st h (rep_str _ _) _)
theorem Ev.bool {i n pos} : Ev cx k sc (.Constant (.bool i) n pos) (fun _ Q _ => Q (B i)) := fun f hid m σ s Q X hs ok st h =>
  wpAny_Constant_bool (evq st h (rep_bool _) s.toks)
theorem Ev.none {n pos} : Ev cx k sc (.Constant .none n pos) (fun _ Q _ => Q NN) := fun f hid m σ s Q X hs ok st h =>
  wpAny_Constant_none (evq st h rep_none s.toks)

noncomputable def SE.loc (x : Str) : SE := fun σ Q _ => ∃ d, σ x = some d ∧ Q d
theorem Ev.loc {x pos} (hl : sc.names.lookup x = some .local) (hd : (x == ("__debug__" : Str)) = false) : Ev cx k sc (.Name x pos) (SE.loc x) := fun f hid m σ s Q X hs ok st h => by
  obtain ⟨d, h1, h2⟩ := h
  obtain ⟨v, hv, r⟩ := st.env x d h1
  subst hs
  exact nameX_L (cl := []) st.fr hv (evq st h2 r s.toks) ok.hk hl hd

noncomputable def SE.glob (x : Str) : SE := fun _ Q _ => ∃ d, GD x = some d ∧ Q d
theorem rep_base {f : Fx} {hid : List Addr} (ok : FxOk cx f hid k) {h : Heap} {m : Str → Option Value} (F : Fr cx.H₀ f.L h m) {d : V} {v : Value} (r : Rep cx.LC [] cx.H₀ d v) : Rep cx.LC hid h d v :=
  r.mono (hideAll_mono (fun b o e _ => F.keep b o e) fun b o e _ hb => by rw [ok.h0 b hb] at e; cases e)
theorem Ev.glob {x pos} (hl : sc.names.lookup x = some .globalImplicit) (hd : (x == ("__debug__" : Str)) = false) : Ev cx k sc (.Name x pos) (SE.glob x) := fun f hid m σ s Q X hs ok st h => by
  obtain ⟨d, h1, h2⟩ := h
  obtain ⟨v, hv, r⟩ := cx.gd x d h1
  subst hs
  exact nameX_K (cl := []) st.fr cx.inK cx.read hv (evq st h2 (rep_base ok st.fr r) s.toks) ok.hk hl hd

/-! operators -/
noncomputable def mulOk (a b : Int) : Prop := a.natAbs < 2 ^ 64 ∨ b.natAbs < 2 ^ 64 ∨ (a.natAbs < 10 ^ 300 ∧ b.natAbs < 10 ^ 300)
theorem mulOk.ok {a b : Int} (h : mulOk a b) : IntMulOk a b := by
  have big : ∀ {x : Int}, x.natAbs < 10 ^ 300 → Builtin.Int.intBits x ≤ 2 ^ 20 := fun {x} hx => by
    have h1 : x.natAbs < 2 ^ 1000 := Nat.lt_trans hx (by decide +kernel)
    unfold Builtin.Int.intBits
    split
    · decide
    · rename_i h0
      have h0' : x.natAbs ≠ 0 := by intro q; apply h0; simp; omega
      have := (Nat.log2_lt h0').mpr h1
      omega
  rcases h with h | h | ⟨h1, h2⟩
  · exact .of_left (intBits_le h)
  · exact .of_right (intBits_le h)
  · exact .of_bits (big h1) (big h2)

/-! what a value is, one question at a time -/
noncomputable def kI (v : V) (K : Int → Prop) : Prop := match v with | .d (.int n) => K n | _ => False
theorem kI_inv {v : V} {K : Int → Prop} (h : kI v K) : ∃ n, v = I n ∧ K n := by
  unfold kI at h; split at h
  · exact ⟨_, rfl, h⟩
  · exact h.elim
noncomputable def kS (v : V) (K : Str → Prop) : Prop := match v with | .d (.str n) => K n | _ => False
theorem kS_inv {v : V} {K : Str → Prop} (h : kS v K) : ∃ n, v = S n ∧ K n := by
  unfold kS at h; split at h
  · exact ⟨_, rfl, h⟩
  · exact h.elim
noncomputable def kB (v : V) (K : Bool → Prop) : Prop := match v with | .d (.bool n) => K n | _ => False
theorem kB_inv {v : V} {K : Bool → Prop} (h : kB v K) : ∃ n, v = B n ∧ K n := by
  unfold kB at h; split at h
  · exact ⟨_, rfl, h⟩
  · exact h.elim
noncomputable def kD (v : V) (K : PyData → Prop) : Prop := match v with | .d n => K n | _ => False
theorem kD_inv {v : V} {K : PyData → Prop} (h : kD v K) : ∃ n, v = .d n ∧ K n := by
  cases v with
  | d n => exact ⟨_, rfl, h⟩
  | _ => exact False.elim h
noncomputable def kLst (v : V) (K : List PyData → Prop) : Prop := match v with | .d (.list n) => K n | _ => False
theorem kLst_inv {v : V} {K : List PyData → Prop} (h : kLst v K) : ∃ n, v = .d (.list n) ∧ K n := by
  unfold kLst at h; split at h
  · exact ⟨_, rfl, h⟩
  · exact h.elim
noncomputable def kTup (v : V) (K : List PyData → Prop) : Prop := match v with | .d (.tuple n) => K n | _ => False
theorem kTup_inv {v : V} {K : List PyData → Prop} (h : kTup v K) : ∃ n, v = .d (.tuple n) ∧ K n := by
  unfold kTup at h; split at h
  · exact ⟨_, rfl, h⟩
  · exact h.elim
noncomputable def kLim (v : V) (K : Int → Int → Int → Int → Prop) : Prop := match v with | .lim w r d t => K w r d t | _ => False
theorem kLim_inv {v : V} {K : Int → Int → Int → Int → Prop} (h : kLim v K) : ∃ w r d t, v = .lim w r d t ∧ K w r d t := by
  cases v with
  | lim w r d t => exact ⟨_, _, _, _, rfl, h⟩
  | _ => exact False.elim h
noncomputable def kIS (v : V) (K : Int → Prop) (K' : Str → Prop) : Prop := match v with | .d (.int n) => K n | .d (.str n) => K' n | _ => False
theorem kIS_inv {v : V} {K : Int → Prop} {K' : Str → Prop} (h : kIS v K K') : (∃ n, v = I n ∧ K n) ∨ ∃ n, v = S n ∧ K' n := by
  unfold kIS at h; split at h
  · exact .inl ⟨_, rfl, h⟩
  · exact .inr ⟨_, rfl, h⟩
  · exact h.elim
noncomputable def kIB (v : V) (K : Int → Prop) (K' : Bool → Prop) : Prop := match v with | .d (.int n) => K n | .d (.bool n) => K' n | _ => False
theorem kIB_inv {v : V} {K : Int → Prop} {K' : Bool → Prop} (h : kIB v K K') : (∃ n, v = I n ∧ K n) ∨ ∃ n, v = B n ∧ K' n := by
  unfold kIB at h; split at h
  · exact .inl ⟨_, rfl, h⟩
  · exact .inr ⟨_, rfl, h⟩
  · exact h.elim
noncomputable def kHd {α : Type} (l : List α) (K : α → List α → Prop) : Prop := match l with | a :: r => K a r | [] => False
theorem kHd_inv {α : Type} {l : List α} {K : α → List α → Prop} (h : kHd l K) : ∃ a r, l = a :: r ∧ K a r := by
  cases l with
  | cons a r => exact ⟨_, _, rfl, h⟩
  | nil => exact False.elim h
noncomputable def kNl {α : Type} (l : List α) (K : Prop) : Prop := match l with | _ :: _ => False | [] => K
theorem kNl_inv {α : Type} {l : List α} {K : Prop} (h : kNl l K) : l = [] ∧ K := by
  cases l with
  | cons a r => exact False.elim h
  | nil => exact ⟨rfl, h⟩
noncomputable def pI (v : PyData) (K : Int → Prop) : Prop := match v with | .int n => K n | _ => False
theorem pI_inv {v : PyData} {K : Int → Prop} (h : pI v K) : ∃ n, v = .int n ∧ K n := by
  unfold pI at h; split at h
  · exact ⟨_, rfl, h⟩
  · exact h.elim

noncomputable def binP (op : Operator) (x y : V) (Q : V → Prop) : Prop := match op with
  | .Add => kIS x (fun a => kI y fun b => Q (I (a + b))) fun a => kS y fun b => a.length + b.length ≤ 1000 ∧ Q (S (a ++ b))
  | .Sub => kIB x (fun a => kI y fun b => Q (I (a - b))) fun a => kB y fun b => Q (I ((if a then 1 else 0) - (if b then 1 else 0)))
  | .Mult => kIS x (fun a => kI y fun b => mulOk a b ∧ Q (I (a * b))) fun a => kI y fun n => (a.length ≤ 1 ∧ -1000 ≤ n ∧ n ≤ 1000) ∧ Q (S (Txt.mul a n))
  | .FloorDiv => kI x fun a => kI y fun b => b ≠ 0 ∧ Q (I (a.fdiv b))
  | .Mod => kI x fun a => kI y fun b => b ≠ 0 ∧ Q (I (a.fmod b))
  | .Pow => kI x fun a => kI y fun b => (0 ≤ b ∧ b ≤ 1000000 ∧ a.natAbs < 2 ^ 64) ∧ Q (I (a ^ b.toNat))
  | .LShift => kI x fun a => kI y fun b => (0 ≤ b ∧ b ≤ 1000000 ∧ a.natAbs < 2 ^ 64) ∧ Q (I (a * 2 ^ b.toNat))
  | _ => False

theorem pylong {f : Fx} {hid : List Addr} {m : Str → Option Value} {s : Shared} (ok : FxOk cx f hid k) (F : Fr cx.H₀ f.L s.heap m) : PySem.PylongRoom (model cx.prog cx.w) f.A s :=
  by
    have T := cx.top.keeps F.keep
    exact PySem.PylongRoom.of T.nolimit (by have := ok.depth; unfold recursionLimit Builtin.pylongFrames; omega) (PySem.SeerAt.of (T.seer cx.imp) cx.tree ok.hA ok.hgen ok.hco rfl rfl)

theorem bin_ok {f : Fx} {hid : List Addr} {m : Str → Option Value} {σ : Sg} {s : Shared} {Q : V → Prop} {X : Prop} {op : Operator} {x y : V} {v w : Value} (ok : FxOk cx f hid k) (st : St cx f hid s.heap m σ)
    (rx : Rep cx.LC hid s.heap x v) (ry : Rep cx.LC hid s.heap y w) (h : binP op x y Q) : wpAny (model cx.prog cx.w) f.A (binaryOp op v w) (EvQ cx f hid m s Q) (EvE cx f s X) s := by
  cases op with
  | Add =>
    rcases kIS_inv h with ⟨a, rfl, h⟩ | ⟨a, rfl, h⟩
    · obtain ⟨b, rfl, h⟩ := kI_inv h
      obtain ⟨t, rfl⟩ := int_rep rx; obtain ⟨u, rfl⟩ := int_rep ry
      exact add_int (evq st h (rep_int _ _) _)
    · obtain ⟨b, rfl, h⟩ := kS_inv h
      obtain ⟨t, rfl⟩ := str_rep rx; obtain ⟨u, rfl⟩ := str_rep ry
      exact PyProof.Rows.add_str (fun t' tk => evq st h.2 (rep_str _ _) _) (Nat.le_trans h.1 (by rw [sizeLine_eq]; decide))
  | Sub =>
    rcases kIB_inv h with ⟨a, rfl, h⟩ | ⟨a, rfl, h⟩
    · obtain ⟨b, rfl, h⟩ := kI_inv h
      obtain ⟨t, rfl⟩ := int_rep rx; obtain ⟨u, rfl⟩ := int_rep ry
      exact sub_int (evq st h (rep_int _ _) _)
    · obtain ⟨b, rfl, h⟩ := kB_inv h
      have h1 := bool_rep rx; have h2 := bool_rep ry; subst h1; subst h2
      exact sub_bool (evq st (by have e : ∀ b : Bool, b2i b = if b then 1 else 0 := fun b => by cases b <;> rfl
                                 rw [e, e]; exact h) (rep_int _ _) _)
  | Mult =>
    rcases kIS_inv h with ⟨a, rfl, h⟩ | ⟨a, rfl, h⟩
    · obtain ⟨b, rfl, h⟩ := kI_inv h
      obtain ⟨t, rfl⟩ := int_rep rx; obtain ⟨u, rfl⟩ := int_rep ry
      exact mul_int (evq st h.2 (rep_int _ _) _) h.1.ok
    · obtain ⟨b, rfl, h⟩ := kI_inv h
      obtain ⟨t, rfl⟩ := str_rep rx; obtain ⟨u, rfl⟩ := int_rep ry
      exact PySem.SB.mul (mulOk_of 1 1000 h.1.1 h.1.2.2 (by have := h.1.2.1; omega) (by decide) (by decide)) (fun t' tk => evq st h.2 (rep_str _ _) _)
  | FloorDiv =>
    obtain ⟨a, rfl, h⟩ := kI_inv h; obtain ⟨b, rfl, h⟩ := kI_inv h
    obtain ⟨t, rfl⟩ := int_rep rx; obtain ⟨u, rfl⟩ := int_rep ry
    exact floordiv_int h.1 (evq st h.2 (rep_int _ _) _) (.inr (pylong ok st.fr))
  | Mod =>
    obtain ⟨a, rfl, h⟩ := kI_inv h; obtain ⟨b, rfl, h⟩ := kI_inv h
    obtain ⟨t, rfl⟩ := int_rep rx; obtain ⟨u, rfl⟩ := int_rep ry
    exact mod_int' h.1 (evq st h.2 (rep_int _ _) _)
  | Pow =>
    obtain ⟨a, rfl, h⟩ := kI_inv h; obtain ⟨b, rfl, h⟩ := kI_inv h
    obtain ⟨t, rfl⟩ := int_rep rx; obtain ⟨u, rfl⟩ := int_rep ry
    exact pow_int_small h.1.1 h.1.2.1 h.1.2.2 (evq st h.2 (rep_int _ _) _)
  | LShift =>
    obtain ⟨a, rfl, h⟩ := kI_inv h; obtain ⟨b, rfl, h⟩ := kI_inv h
    obtain ⟨t, rfl⟩ := int_rep rx; obtain ⟨u, rfl⟩ := int_rep ry
    exact lshift_int_small h.1.1 h.1.2.1 h.1.2.2 (evq st h.2 (rep_int _ _) _)
  | _ => exact False.elim h

noncomputable def SE.bin (op : Operator) (a b : SE) : SE := fun σ Q X => a σ (fun x => b σ (fun y => binP op x y Q) X) X
theorem Ev.bin {l r op pos a b} (ha : Ev cx k sc l a) (hb : Ev cx k sc r b) : Ev cx k sc (.BinOp l op r pos) (SE.bin op a b) := fun f hid m σ s Q X hs ok st h => by
  refine wpAny_BinOp (ha.then hs ok st h fun v x s₁ hx rx st₁ p₁ z₁ => wp_backE st₁ p₁ z₁ (hb.then hs ok st₁ hx fun w y s₂ hy ry st₂ p₂ z₂ => ?_))
  exact wp_back st₂ (p₁.trans p₂) (z₁.trans z₂) (bin_ok ok st₂ (rx.next ok p₂) ry hy)

end

-- the part M3
noncomputable def isNone : PyData → Bool
  | .none => true
  | _ => false
theorem any_two (a b c : Int) : (([PyData.int b, PyData.int c] : List PyData).any fun y => PyData.eqv y (.int a)) = decide (a = b ∨ a = c) := by
  have e : ∀ x y : Int, PyData.eqv (.int x) (.int y) = decide (x = y) := fun x y => rfl
  rw [List.any_cons, List.any_cons, List.any_nil, Bool.or_false, e, e]
  by_cases h1 : a = b
  · subst h1; simp
  · have h1' : b ≠ a := fun q => h1 q.symm
    by_cases h2 : a = c
    · subst h2; simp
    · have h2' : c ≠ a := fun q => h2 q.symm
      simp only [h1, h2, h1', h2', decide_false, Bool.or_self, or_self]

/-- two plain values of one plain kind, compared -/
noncomputable def eqK (x y : PyData) : Option Bool := match x with
  | .int a => (match y with | .int b => some (decide (a = b)) | _ => none)
  | .str a => (match y with | .str b => some (decide (a = b)) | _ => none)
  | .bool a => (match y with | .bool b => some (decide (a = b)) | _ => none)
  | _ => none
inductive EqKd : PyData → PyData → Bool → Prop
  | int (a b : Int) : EqKd (.int a) (.int b) (decide (a = b))
  | str (a b : Str) : EqKd (.str a) (.str b) (decide (a = b))
  | bool (a b : Bool) : EqKd (.bool a) (.bool b) (decide (a = b))
theorem eqK_inv {x y : PyData} {z : Bool} (h : eqK x y = some z) : EqKd x y z := by
  cases x with
  | int a => cases y with
    | int b => obtain rfl := Option.some.inj h; exact .int _ _
    | _ => cases h
  | str a => cases y with
    | str b => obtain rfl := Option.some.inj h; exact .str _ _
    | _ => cases h
  | bool a => cases y with
    | bool b => obtain rfl := Option.some.inj h; exact .bool _ _
    | _ => cases h
  | _ => cases h
noncomputable def kEq (x y : PyData) (K : Bool → Prop) (N : Prop) : Prop := match eqK x y with | some z => K z | none => N
theorem kEq_inv {x y : PyData} {K : Bool → Prop} {N : Prop} (h : kEq x y K N) : (∃ z, EqKd x y z ∧ K z) ∨ N := by
  unfold kEq at h
  cases e : eqK x y with
  | some z => rw [e] at h; exact .inl ⟨z, eqK_inv e, h⟩
  | none => rw [e] at h; exact .inr h
noncomputable def cmpP (op : CmpOp) (x y : V) (Q : V → Prop) : Prop := match op with
  | .Eq => kD x fun x => kD y fun y => kEq x y (fun z => Q (B z)) (x = y ∧ x.canLay0 = true ∧ x.depth ≤ 64 ∧ Q (B true))
  | .NotEq => kD x fun x => kD y fun y => kEq x y (fun z => Q (B (!z))) (x = y ∧ x.canLay0 = true ∧ x.depth ≤ 64 ∧ Q (B false))
  | .Lt => kIS x (fun a => kI y fun b => Q (B (decide (a < b)))) fun a => kS y fun b => Q (B (decide (a.cps.toList < b.cps.toList)))
  | .LtE => kI x fun a => kI y fun b => Q (B (decide (a ≤ b)))
  | .Gt => kI x fun a => kI y fun b => Q (B (decide (b < a)))
  | .GtE => kI x fun a => kI y fun b => Q (B (decide (b ≤ a)))
  | .Is => kD x fun x => kD y fun y => y = .none ∧ Q (B (isNone x))
  | .In => kI x fun a => kTup y fun l => kHd l fun b r => pI b fun b => kHd r fun c r => pI c fun c => kNl r (Q (B (decide (a = b ∨ a = c))))
  | _ => False

/-! the same, where the values are told -/
section
variable {Q : V → Prop}
theorem kI_d {n : Int} {K} : kI (.d (.int n)) K = K n := rfl
theorem kS_d {n : Str} {K} : kS (.d (.str n)) K = K n := rfl
theorem kB_d {n : Bool} {K} : kB (.d (.bool n)) K = K n := rfl
theorem kD_d {n : PyData} {K} : kD (.d n) K = K n := rfl
theorem kLst_d {n : List PyData} {K} : kLst (.d (.list n)) K = K n := rfl
theorem kTup_d {n : List PyData} {K} : kTup (.d (.tuple n)) K = K n := rfl
theorem kLim_d {w r d t : Int} {K} : kLim (.lim w r d t) K = K w r d t := rfl
theorem kIS_i {n : Int} {K K'} : kIS (.d (.int n)) K K' = K n := rfl
theorem kIS_s {n : Str} {K K'} : kIS (.d (.str n)) K K' = K' n := rfl
theorem kHd_c {α : Type} {a : α} {r K} : kHd (a :: r) K = K a r := rfl
theorem kNl_n {α : Type} {K : Prop} : kNl ([] : List α) K = K := rfl
theorem pI_i {n : Int} {K} : pI (.int n) K = K n := rfl
theorem bAddI {a b : Int} : binP .Add (I a) (I b) Q = Q (I (a + b)) := rfl
theorem bAddS {a b : Str} : binP .Add (S a) (S b) Q = (a.length + b.length ≤ 1000 ∧ Q (S (a ++ b))) := rfl
theorem bSubI {a b : Int} : binP .Sub (I a) (I b) Q = Q (I (a - b)) := rfl
theorem bSubB {a b : Bool} : binP .Sub (B a) (B b) Q = Q (I ((if a then 1 else 0) - (if b then 1 else 0))) := rfl
theorem bMulI {a b : Int} : binP .Mult (I a) (I b) Q = (mulOk a b ∧ Q (I (a * b))) := rfl
theorem bMulS {a : Str} {n : Int} : binP .Mult (S a) (I n) Q = ((a.length ≤ 1 ∧ -1000 ≤ n ∧ n ≤ 1000) ∧ Q (S (Txt.mul a n))) := rfl
theorem bDivI {a b : Int} : binP .FloorDiv (I a) (I b) Q = (b ≠ 0 ∧ Q (I (a.fdiv b))) := rfl
theorem bModI {a b : Int} : binP .Mod (I a) (I b) Q = (b ≠ 0 ∧ Q (I (a.fmod b))) := rfl
theorem bPowI {a b : Int} : binP .Pow (I a) (I b) Q = ((0 ≤ b ∧ b ≤ 1000000 ∧ a.natAbs < 2 ^ 64) ∧ Q (I (a ^ b.toNat))) := rfl
theorem bShlI {a b : Int} : binP .LShift (I a) (I b) Q = ((0 ≤ b ∧ b ≤ 1000000 ∧ a.natAbs < 2 ^ 64) ∧ Q (I (a * 2 ^ b.toNat))) := rfl
theorem cEqI {a b : Int} : cmpP .Eq (I a) (I b) Q = Q (B (decide (a = b))) := rfl
theorem cEqS {a b : Str} : cmpP .Eq (S a) (S b) Q = Q (B (decide (a = b))) := rfl
theorem cEqB {a b : Bool} : cmpP .Eq (B a) (B b) Q = Q (B (decide (a = b))) := rfl
theorem cEqL {a b : List PyData} : cmpP .Eq (.d (.list a)) (.d (.list b)) Q = (PyData.list a = PyData.list b ∧ (PyData.list a).canLay0 = true ∧ (PyData.list a).depth ≤ 64 ∧ Q (B true)) := rfl
theorem cNeI {a b : Int} : cmpP .NotEq (I a) (I b) Q = Q (B (!decide (a = b))) := rfl
theorem cNeS {a b : Str} : cmpP .NotEq (S a) (S b) Q = Q (B (!decide (a = b))) := rfl
theorem cNeL {a b : List PyData} : cmpP .NotEq (.d (.list a)) (.d (.list b)) Q = (PyData.list a = PyData.list b ∧ (PyData.list a).canLay0 = true ∧ (PyData.list a).depth ≤ 64 ∧ Q (B false)) := rfl
theorem cLtI {a b : Int} : cmpP .Lt (I a) (I b) Q = Q (B (decide (a < b))) := rfl
theorem cLtS {a b : Str} : cmpP .Lt (S a) (S b) Q = Q (B (decide (a.cps.toList < b.cps.toList))) := rfl
theorem cLeI {a b : Int} : cmpP .LtE (I a) (I b) Q = Q (B (decide (a ≤ b))) := rfl
theorem cGtI {a b : Int} : cmpP .Gt (I a) (I b) Q = Q (B (decide (b < a))) := rfl
theorem cGeI {a b : Int} : cmpP .GtE (I a) (I b) Q = Q (B (decide (b ≤ a))) := rfl
theorem cIsN {x : PyData} : cmpP .Is (.d x) (.d .none) Q = (PyData.none = PyData.none ∧ Q (B (isNone x))) := rfl
theorem cInT {a b c : Int} : cmpP .In (I a) (.d (.tuple [.int b, .int c])) Q = Q (B (decide (a = b ∨ a = c))) := rfl
end
section
variable {cx : Cx} {k : Nat} {sc : Scope}

theorem reads_of {hid : List Addr} {h : Heap} {LC : RC} {x : PyData} {v : Value} (r : Rep LC hid h (.d x) v) : ∃ as, Reads h v x as :=
  let ⟨as, r⟩ := r; ⟨as, Reads.keeps (fun _ _ e => of_hideAll _ e) r⟩

theorem cmp_ok {f : Fx} {hid : List Addr} {m : Str → Option Value} {σ : Sg} {s : Shared} {Q : V → Prop} {X : Prop} {op : CmpOp} {x y : V} {v w : Value} (ok : FxOk cx f hid k) (st : St cx f hid s.heap m σ)
    (rx : Rep cx.LC hid s.heap x v) (ry : Rep cx.LC hid s.heap y w) (h : cmpP op x y Q) : wpAny (model cx.prog cx.w) f.A (compareOp op v w) (EvQ cx f hid m s Q) (EvE cx f s X) s := by
  have hu := ok.units
  have same {x y : PyData} {z : Bool} (k : EqKd x y z) : (Rep cx.LC hid s.heap (.d x) v → Rep cx.LC hid s.heap (.d y) w → (Q (B z) → wpAny (model cx.prog cx.w) f.A (compareOp .Eq v w) (EvQ cx f hid m s Q) (EvE cx f s X) s) ∧
      (Q (B (!z)) → wpAny (model cx.prog cx.w) f.A (compareOp .NotEq v w) (EvQ cx f hid m s Q) (EvE cx f s X) s)) := by
    intro rx ry
    cases k with
    | int a b =>
      obtain ⟨t, rfl⟩ := int_rep rx; obtain ⟨u, rfl⟩ := int_rep ry
      exact ⟨fun h => eq_int (evq st (v := .bool (a == b)) (by rw [show (a == b) = decide (a = b) from rfl]; exact h) (rep_bool _) s.toks),
        fun h => ne_int (by rw [show (a != b) = !decide (a = b) from rfl]; exact evq st h (rep_bool _) s.toks)⟩
    | str a b =>
      obtain ⟨t, rfl⟩ := str_rep rx; obtain ⟨u, rfl⟩ := str_rep ry
      have e : (a == b) = decide (a = b) := by by_cases q : a = b <;> simp [q]
      have e' : (a != b) = !decide (a = b) := by by_cases q : a = b <;> simp [q]
      exact ⟨fun h => PyProof.Rows.eq_str (by rw [e]; exact evq st h (rep_bool _) s.toks), fun h => PyProof.Rows.ne_str (by rw [e']; exact evq st h (rep_bool _) s.toks)⟩
    | bool a b =>
      have h1 := bool_rep rx; have h2 := bool_rep ry; subst h1; subst h2
      have e : (a == b) = decide (a = b) := by by_cases q : a = b <;> simp [q]
      have e' : (a != b) = !decide (a = b) := by by_cases q : a = b <;> simp [q]
      exact ⟨fun h => eq_bool (by rw [e]; exact evq st h (rep_bool _) s.toks), fun h => ne_bool (by rw [e']; exact evq st h (rep_bool _) s.toks)⟩
  cases op with
  | Eq =>
    obtain ⟨x, rfl, h⟩ := kD_inv h; obtain ⟨y, rfl, h⟩ := kD_inv h
    rcases kEq_inv h with ⟨z, hk, h⟩ | h
    · exact (same hk rx ry).1 h
    · obtain ⟨rfl, h1, h2, h3⟩ := h
      obtain ⟨as, ra⟩ := reads_of rx; obtain ⟨bs, rb⟩ := reads_of ry
      exact SeqAt.compareEq_reads ra rb h1 h1 (by rw [Nat.min_self]; unfold cLine; omega) (by rw [SeqAt.eqv_refl _ h1]; exact evq st h3 (rep_bool _) s.toks)
  | NotEq =>
    obtain ⟨x, rfl, h⟩ := kD_inv h; obtain ⟨y, rfl, h⟩ := kD_inv h
    rcases kEq_inv h with ⟨z, hk, h⟩ | h
    · exact (same hk rx ry).2 h
    · obtain ⟨rfl, h1, h2, h3⟩ := h
      obtain ⟨as, ra⟩ := reads_of rx; obtain ⟨bs, rb⟩ := reads_of ry
      exact SeqAt.compareNe_reads ra rb h1 h1 (by rw [Nat.min_self]; unfold cLine; omega) (by rw [SeqAt.eqv_refl _ h1]; exact evq st h3 (rep_bool _) s.toks)
  | Lt =>
    rcases kIS_inv h with ⟨a, rfl, h⟩ | ⟨a, rfl, h⟩
    · obtain ⟨b, rfl, h⟩ := kI_inv h
      obtain ⟨t, rfl⟩ := int_rep rx; obtain ⟨u, rfl⟩ := int_rep ry
      exact lt_int (evq st h (rep_bool _) s.toks)
    · obtain ⟨b, rfl, h⟩ := kS_inv h
      obtain ⟨t, rfl⟩ := str_rep rx; obtain ⟨u, rfl⟩ := str_rep ry
      exact PyProof.Rows.lt_str (evq st h (rep_bool _) s.toks)
  | LtE =>
    obtain ⟨a, rfl, h⟩ := kI_inv h; obtain ⟨b, rfl, h⟩ := kI_inv h
    obtain ⟨t, rfl⟩ := int_rep rx; obtain ⟨u, rfl⟩ := int_rep ry
    exact PyProof.Rows.le_int (evq st h (rep_bool _) s.toks)
  | Gt =>
    obtain ⟨a, rfl, h⟩ := kI_inv h; obtain ⟨b, rfl, h⟩ := kI_inv h
    obtain ⟨t, rfl⟩ := int_rep rx; obtain ⟨u, rfl⟩ := int_rep ry
    exact gt_int (evq st h (rep_bool _) s.toks)
  | GtE =>
    obtain ⟨a, rfl, h⟩ := kI_inv h; obtain ⟨b, rfl, h⟩ := kI_inv h
    obtain ⟨t, rfl⟩ := int_rep rx; obtain ⟨u, rfl⟩ := int_rep ry
    exact PyProof.Rows.ge_int (evq st h (rep_bool _) s.toks)
  | Is =>
    obtain ⟨x, rfl, g⟩ := kD_inv h; obtain ⟨y, rfl, g'⟩ := kD_inv g
    obtain ⟨rfl, hq⟩ := g'
    have h2 := none_rep ry; subst h2
    obtain ⟨as, rx⟩ := rx
    refine is_none ?_
    have e : (v == Value.none) = isNone x := by
      cases rx <;> rfl
    rw [e]
    exact evq st hq (rep_bool _) s.toks
  | In =>
    obtain ⟨a, rfl, h⟩ := kI_inv h; obtain ⟨l, rfl, h⟩ := kTup_inv h
    obtain ⟨b, r, rfl, h⟩ := kHd_inv h; obtain ⟨b, rfl, h⟩ := pI_inv h
    obtain ⟨c, r, rfl, h⟩ := kHd_inv h; obtain ⟨c, rfl, h⟩ := pI_inv h
    obtain ⟨rfl, h⟩ := kNl_inv h
    obtain ⟨bs, rb⟩ := reads_of rx; obtain ⟨as, ra⟩ := reads_of ry
    refine SeqAt.in_tuple_reads ra rb rfl rfl (by show f.A.units + 1 + min _ 0 < cLine; rw [Nat.min_zero]; unfold cLine; omega) ?_
    rw [any_two]
    exact evq st h (rep_bool _) s.toks
  | _ => exact False.elim h

/-! tests -/
noncomputable abbrev TE := Sg → (Bool → Prop) → Prop → Prop
noncomputable def TvQ (cx : Cx) (f : Fx) (hid : List Addr) (m : Str → Option Value) (σ : Sg) (s : Shared) (Q : Bool → Prop) : Bool → Shared → Prop :=
  fun b s' => Q b ∧ St cx f hid s'.heap m σ ∧ Pres f s.heap s'.heap ∧ Same s s'
noncomputable def Ts (cx : Cx) (k : Nat) (sc : Scope) (e : Expr) (T : TE) : Prop :=
  ∀ (f : Fx) (hid : List Addr) (m : Str → Option Value) (σ : Sg) (s : Shared) (Q : Bool → Prop) (X : Prop), f.sc = sc → FxOk cx f hid k → St cx f hid s.heap m σ → T σ Q X →
    wpAny (model cx.prog cx.w) f.A (isTrue e f.env (eval e f.env)) (TvQ cx f hid m σ s Q) (EvE cx f s X) s
theorem Ts.then {e : Expr} {T : TE} (he : Ts cx k sc e T) {f : Fx} {hid : List Addr} {m : Str → Option Value} {σ : Sg} {s s₀ : Shared} {Q : Bool → Prop} {X : Prop} (hs : f.sc = sc) (ok : FxOk cx f hid k) (st : St cx f hid s.heap m σ) (hT : T σ Q X)
    (p₀ : Pres f s₀.heap s.heap) (z₀ : Same s₀ s) {P : Bool → Shared → Prop} (K : ∀ b s₁, Q b → St cx f hid s₁.heap m σ → Pres f s.heap s₁.heap → Pres f s₀.heap s₁.heap → Same s₀ s₁ → P b s₁) :
    wpAny (model cx.prog cx.w) f.A (isTrue e f.env (eval e f.env)) P (EvE cx f s₀ X) s :=
  wpAny_mono (he f hid m σ s Q X hs ok st hT) (fun b s₁ ⟨h1, h2, h3, h4⟩ => K b s₁ h1 h2 h3 (p₀.trans h3) (z₀.trans h4)) fun _ _ x => x.back st.fr p₀ z₀ id
/-- as Ev.then, the exception told from an elder state -/
theorem Ev.go {e : Expr} {T : SE} (he : Ev cx k sc e T) {f : Fx} {hid : List Addr} {m : Str → Option Value} {σ : Sg} {s s₀ : Shared} {Q : V → Prop} {X : Prop} (hs : f.sc = sc) (ok : FxOk cx f hid k) (st : St cx f hid s.heap m σ) (hT : T σ Q X)
    (p₀ : Pres f s₀.heap s.heap) (z₀ : Same s₀ s) {P : Value → Shared → Prop} (K : ∀ v d s₁, Q d → Rep cx.LC hid s₁.heap d v → St cx f hid s₁.heap m σ → Pres f s.heap s₁.heap → Pres f s₀.heap s₁.heap → Same s₀ s₁ → P v s₁) :
    wpAny (model cx.prog cx.w) f.A (eval e f.env) P (EvE cx f s₀ X) s :=
  wpAny_mono (he.then hs ok st hT (P := P) fun v d s₁ a b c e g => K v d s₁ a b c e (p₀.trans e) (z₀.trans g)) (fun _ _ x => x) fun _ _ x => x.back st.fr p₀ z₀ id
/-- a primitive's end, both told from an elder state -/
theorem prim {f : Fx} {hid : List Addr} {m : Str → Option Value} {σ : Sg} {s s₀ : Shared} {Q : V → Prop} {X : Prop} {t : Sem Value} {A : Around} (ok : FxOk cx f hid k) (st : St cx f hid s.heap m σ) (p₀ : Pres f s₀.heap s.heap) (z₀ : Same s₀ s) {P : Value → Shared → Prop}
    (h : wpAny (model cx.prog cx.w) A t (EvQ cx f hid m s Q) (EvE cx f s X) s)
    (K : ∀ v d s₁, Q d → Rep cx.LC hid s₁.heap d v → St cx f hid s₁.heap m σ → Pres f s.heap s₁.heap → Pres f s₀.heap s₁.heap → Same s₀ s₁ → P v s₁) : wpAny (model cx.prog cx.w) A t P (EvE cx f s₀ X) s :=
  wpAny_mono h (fun v s₁ ⟨d, h1, h2, h3, h4, h5⟩ => K v d s₁ h1 h2 (st.next ok h4 h3 rfl) h4 (p₀.trans h4) (z₀.trans h5)) fun _ _ x => x.back st.fr p₀ z₀ id
theorem EvQ.mk {f : Fx} {hid : List Addr} {m : Str → Option Value} {σ : Sg} {s s₁ : Shared} {Q : V → Prop} {d : V} {v : Value} (q : Q d) (r : Rep cx.LC hid s₁.heap d v) (st : St cx f hid s₁.heap m σ) (p : Pres f s.heap s₁.heap) (z : Same s s₁) : EvQ cx f hid m s Q v s₁ := ⟨d, q, r, st.fr, p, z⟩

noncomputable def truthP : V → (Bool → Prop) → Prop
  | .d (.bool b), Q => Q b
  | _, _ => False
theorem truth_ok {f : Fx} {hid : List Addr} {A : Around} {s : Shared} {Q : Bool → Prop} {x : V} {v : Value} {E : Value → Shared → Prop} {P : Bool → Shared → Prop} (rx : Rep cx.LC hid s.heap x v) (h : truthP x Q) (K : ∀ b, Q b → P b s) : wpAny (model cx.prog cx.w) A (truthy v) P E s := by
  unfold truthP at h
  split at h
  · have h1 := bool_rep rx; subst h1
    exact wpAny_truthy_bool (K _ h)
  · exact h.elim

noncomputable def SE.cmp (op : CmpOp) (a b : SE) : SE := fun σ Q X => a σ (fun x => b σ (fun y => cmpP op x y Q) X) X
theorem Ev.cmp {l op r pos a b} (ha : Ev cx k sc l a) (hb : Ev cx k sc r b) (hm : behindInMarks op r = false) : Ev cx k sc (.Compare l [op] [r] pos) (SE.cmp op a b) := fun f hid m σ s Q X hs ok st h =>
  wpAny_Compare1 (ha.go hs ok st h (.refl _ _) (.refl _) fun v x s₁ hx rx st₁ _ p₁ z₁ => hb.go hs ok st₁ hx p₁ z₁ fun w y s₂ hy ry st₂ q₂ p₂ z₂ =>
    prim ok st₂ p₂ z₂ (cmp_ok ok st₂ (rx.next ok q₂) ry hy) fun _ _ _ h1 h2 h3 h4 h5 h6 => .mk h1 h2 h3 h5 h6) hm
noncomputable def TE.cmp (op : CmpOp) (a b : SE) : TE := fun σ Q X => a σ (fun x => b σ (fun y => cmpP op x y fun z => truthP z Q) X) X
theorem Ts.cmp {l op r pos a b} (ha : Ev cx k sc l a) (hb : Ev cx k sc r b) (hm : behindInMarks op r = false) : Ts cx k sc (.Compare l [op] [r] pos) (TE.cmp op a b) := fun f hid m σ s Q X hs ok st h =>
  wpAny_isTrue_Compare1 (ha.go hs ok st h (.refl _ _) (.refl _) fun v x s₁ hx rx st₁ _ p₁ z₁ => hb.go hs ok st₁ hx p₁ z₁ fun w y s₂ hy ry st₂ q₂ p₂ z₂ =>
    prim ok st₂ p₂ z₂ (cmp_ok ok st₂ (rx.next ok q₂) ry hy) fun _ _ _ h1 h2 h3 h4 h5 h6 => truth_ok (f := f) h2 h1 fun _ hb => ⟨hb, h3, h5, h6⟩) hm
/-- a chain of two -/
noncomputable def TE.chain (op op' : CmpOp) (a b c : SE) : TE := fun σ Q X => a σ (fun x => b σ (fun y => cmpP op x y fun z => truthP z fun t => (t = true → c σ (fun w => cmpP op' y w fun z' => truthP z' Q) X) ∧ (t = false → Q false)) X) X
theorem Ts.chain {l op op' r r' pos a b c} (ha : Ev cx k sc l a) (hb : Ev cx k sc r b) (hc : Ev cx k sc r' c) (hm : lastMarks [op, op'] [r, r'] = false) : Ts cx k sc (.Compare l [op, op'] [r, r'] pos) (TE.chain op op' a b c) := fun f hid m σ s Q X hs ok st h =>
  isTrue_chain (ha.go hs ok st h (.refl _ _) (.refl _) fun v x s₁ hx rx st₁ _ p₁ z₁ => test_link (hb.go hs ok st₁ hx p₁ z₁ fun w y s₂ hy ry st₂ q₂ p₂ z₂ =>
    prim ok st₂ p₂ z₂ (cmp_ok ok st₂ (rx.next ok q₂) ry hy) fun _ _ s₃ h1 h2 h3 h4 h5 h6 => truth_ok (f := f) h2 h1 fun t ht => by
      cases t with
      | false => exact ⟨ht.2 rfl, h3, h5, h6⟩
      | true => exact test_last (hc.go hs ok h3 (ht.1 rfl) h5 h6 fun w' y' s₄ hy' ry' st₄ q₄ p₄ z₄ =>
          prim ok st₄ p₄ z₄ (cmp_ok ok st₄ ((ry.next ok h4).next ok q₄) ry' hy') fun _ _ _ h1 h2 h3 h4 h5 h6 => truth_ok (f := f) h2 h1 fun _ hb => ⟨hb, h3, h5, h6⟩))) hm
noncomputable def TE.val (a : SE) : TE := fun σ Q X => a σ (fun x => truthP x Q) X
noncomputable def TE.and (a b : TE) : TE := fun σ Q X => a σ (fun t => (t = true → b σ Q X) ∧ (t = false → Q false)) X
noncomputable def TE.or (a b : TE) : TE := fun σ Q X => a σ (fun t => (t = true → Q true) ∧ (t = false → b σ Q X)) X
noncomputable def Tall (cx : Cx) (k : Nat) (sc : Scope) (op : BoolOp) (es : List Expr) (T : TE) : Prop :=
  ∀ (f : Fx) (hid : List Addr) (m : Str → Option Value) (σ : Sg) (s : Shared) (Q : Bool → Prop) (X : Prop), f.sc = sc → FxOk cx f hid k → St cx f hid s.heap m σ → T σ Q X →
    wpAny (model cx.prog cx.w) f.A (allTrue op es f.env) (TvQ cx f hid m σ s Q) (EvE cx f s X) s
theorem Tall.go {op : BoolOp} {es : List Expr} {T : TE} (he : Tall cx k sc op es T) {f : Fx} {hid : List Addr} {m : Str → Option Value} {σ : Sg} {s s₀ : Shared} {Q : Bool → Prop} {X : Prop} (hs : f.sc = sc) (ok : FxOk cx f hid k) (st : St cx f hid s.heap m σ) (hT : T σ Q X)
    (p₀ : Pres f s₀.heap s.heap) (z₀ : Same s₀ s) : wpAny (model cx.prog cx.w) f.A (allTrue op es f.env) (TvQ cx f hid m σ s₀ Q) (EvE cx f s₀ X) s :=
  wpAny_mono (he f hid m σ s Q X hs ok st hT) (fun b s₁ ⟨h1, h2, h3, h4⟩ => ⟨h1, h2, p₀.trans h3, z₀.trans h4⟩) fun _ _ x => x.back st.fr p₀ z₀ id
theorem Tall.andNil : Tall cx k sc .And [] (fun _ Q _ => Q true) := fun f hid m σ s Q X hs ok st h => wpAny_allTrue_And_nil ⟨h, st, .refl _ _, .refl _⟩
theorem Tall.orNil : Tall cx k sc .Or [] (fun _ Q _ => Q false) := fun f hid m σ s Q X hs ok st h => wpAny_allTrue_Or_nil ⟨h, st, .refl _ _, .refl _⟩
theorem Tall.andCons {e es a b} (ha : Ts cx k sc e a) (hb : Tall cx k sc .And es b) : Tall cx k sc .And (e :: es) (TE.and a b) := fun f hid m σ s Q X hs ok st h =>
  wpAny_allTrue_And_cons (ha.then hs ok st h (.refl _ _) (.refl _) fun t s₁ ht st₁ _ p₁ z₁ => by
    cases t with
    | false => exact ⟨ht.2 rfl, st₁, p₁, z₁⟩
    | true => exact hb.go hs ok st₁ (ht.1 rfl) p₁ z₁)
theorem Tall.orCons {e es a b} (ha : Ts cx k sc e a) (hb : Tall cx k sc .Or es b) : Tall cx k sc .Or (e :: es) (TE.or a b) := fun f hid m σ s Q X hs ok st h =>
  wpAny_allTrue_Or_cons (ha.then hs ok st h (.refl _ _) (.refl _) fun t s₁ ht st₁ _ p₁ z₁ => by
    cases t with
    | true => exact ⟨ht.1 rfl, st₁, p₁, z₁⟩
    | false => exact hb.go hs ok st₁ (ht.2 rfl) p₁ z₁)
theorem Ts.boolOp {op es pos a} (ha : Tall cx k sc op es a) : Ts cx k sc (.BoolOp op es pos) a := fun f hid m σ s Q X hs ok st h => wpAny_isTrue_BoolOp (ha f hid m σ s Q X hs ok st h)

/-! unary, conditional -/
noncomputable def negP : V → (V → Prop) → Prop
  | .d (.int a), Q => Q (I (-a))
  | _, _ => False
noncomputable def SE.neg (a : SE) : SE := fun σ Q X => a σ (fun x => negP x Q) X
theorem Ev.neg {e pos a} (ha : Ev cx k sc e a) : Ev cx k sc (.UnaryOp .USub e pos) (SE.neg a) := fun f hid m σ s Q X hs ok st h =>
  wpAny_UnaryOp (ha.go hs ok st h (.refl _ _) (.refl _) fun v x s₁ hx rx st₁ _ p₁ z₁ => by
    unfold negP at hx
    split at hx
    · obtain ⟨t, rfl⟩ := int_rep rx
      exact PyProof.Rows.neg_int (EvQ.mk hx (rep_int _ _) (s₁ := { s₁ with toks := _ }) st₁ p₁ ⟨z₁.1, z₁.2, z₁.3⟩)
    · exact hx.elim)
noncomputable def SE.not (a : SE) : SE := fun σ Q X => a σ (fun x => truthP x fun b => Q (B (!b))) X
theorem Ev.not {e pos a} (ha : Ev cx k sc e a) : Ev cx k sc (.UnaryOp .Not e pos) (SE.not a) := fun f hid m σ s Q X hs ok st h =>
  wpAny_UnaryOp (ha.go hs ok st h (.refl _ _) (.refl _) fun v x s₁ hx rx st₁ _ p₁ z₁ => not_value (truth_ok (f := f) rx hx fun b hb => EvQ.mk hb (rep_bool _) st₁ p₁ z₁))
noncomputable def SE.ite (t : TE) (a b : SE) : SE := fun σ Q X => t σ (fun c => (c = true → a σ Q X) ∧ (c = false → b σ Q X)) X
theorem Ev.ite {t b o pos T a c} (ht : Ts cx k sc t T) (ha : Ev cx k sc b a) (hc : Ev cx k sc o c) : Ev cx k sc (.IfExp t b o pos) (SE.ite T a c) := fun f hid m σ s Q X hs ok st h =>
  wpAny_IfExp (ht.then hs ok st h (.refl _ _) (.refl _) fun t s₁ ht st₁ _ p₁ z₁ => by
    cases t with
    | true => exact ha.go hs ok st₁ (ht.1 rfl) p₁ z₁ fun _ _ _ h1 h2 h3 h4 h5 h6 => .mk h1 h2 h3 h5 h6
    | false => exact hc.go hs ok st₁ (ht.2 rfl) p₁ z₁ fun _ _ _ h1 h2 h3 h4 h5 h6 => .mk h1 h2 h3 h5 h6)
end

-- the part M4
/-! ## rows of expressions -/
noncomputable def RepL (LC : RC) (hid : List Addr) (h : Heap) : List V → List Value → Prop
  | [], [] => True
  | d :: ds, v :: vs => Rep LC hid h d v ∧ RepL LC hid h ds vs
  | _, _ => False
theorem RepL.mono {LC : RC} {l l' : List Addr} {h h' : Heap} (k : ∀ b o, (hideAll h l).get? b = some o → (hideAll h' l').get? b = some o) : ∀ {ds : List V} {vs : List Value}, RepL LC l h ds vs → RepL LC l' h' ds vs
  | [], [], _ => trivial
  | _ :: _, _ :: _, ⟨a, b⟩ => ⟨a.mono k, b.mono k⟩
theorem RepL.length {LC : RC} {l : List Addr} {h : Heap} : ∀ {ds : List V} {vs : List Value}, RepL LC l h ds vs → vs.length = ds.length
  | [], [], _ => rfl
  | _ :: _, _ :: _, ⟨_, b⟩ => by rw [List.length_cons, List.length_cons, b.length]
noncomputable def allD : List V → (List PyData → Prop) → Prop
  | [], Q => Q []
  | .d x :: r, Q => allD r fun xs => Q (x :: xs)
  | _ :: _, _ => False
theorem allD_reads {LC : RC} {hid : List Addr} {h : Heap} : ∀ {ds : List V} {vs : List Value} {Q : List PyData → Prop}, RepL LC hid h ds vs → allD ds Q → ∃ xs as, Q xs ∧ ReadsAll (hideAll h hid) vs xs as ∧ xs.length = ds.length
  | [], [], _, _, q => ⟨[], [], q, .nil, rfl⟩
  | .d x :: _, v :: _, _, ⟨⟨as, r⟩, b⟩, q => by
    obtain ⟨xs, bs, h1, h2, h3⟩ := allD_reads b q
    exact ⟨x :: xs, as ++ bs, h1, .cons r h2, by rw [List.length_cons, List.length_cons, h3]⟩
theorem readsAll_get {h : Heap} : ∀ {vs : List Value} {xs : List PyData} {as : List Addr} {i : Nat} {d : PyData}, ReadsAll h vs xs as → xs[i]? = some d → ∃ v bs, vs[i]? = some v ∧ Reads h v d bs
  | _, _, _, i, _, .nil, e => by cases i <;> cases e
  | _, _, _, 0, _, .cons r _, e => by cases e; exact ⟨_, _, rfl, r⟩
  | _, _, _, i + 1, _, .cons _ r, e => by
    obtain ⟨v, bs, h1, h2⟩ := readsAll_get (i := i) r (by simpa using e)
    exact ⟨v, bs, by simpa using h1, h2⟩
theorem readsAll_len {h : Heap} : ∀ {vs : List Value} {xs : List PyData} {as : List Addr}, ReadsAll h vs xs as → vs.length = xs.length
  | _, _, _, .nil => rfl
  | _, _, _, .cons _ r => by rw [List.length_cons, List.length_cons, readsAll_len r]

section
variable {cx : Cx} {k : Nat} {sc : Scope}

theorem RepL.next {f : Fx} {hid : List Addr} (ok : FxOk cx f hid k) {h h' : Heap} (p : Pres f h h') {x : List V} {v : List Value} (r : RepL cx.LC hid h x v) : RepL cx.LC hid h' x v := r.mono (vis ok p)

noncomputable abbrev LE := Sg → (List V → Prop) → Prop → Prop
noncomputable def LvQ (cx : Cx) (f : Fx) (hid : List Addr) (m : Str → Option Value) (σ : Sg) (s : Shared) (n : Nat) (Q : List V → Prop) : List Value → Shared → Prop :=
  fun vs s' => vs.length = n ∧ ∃ ds, Q ds ∧ RepL cx.LC hid s'.heap ds vs ∧ St cx f hid s'.heap m σ ∧ Pres f s.heap s'.heap ∧ Same s s'
noncomputable def Evs (cx : Cx) (k : Nat) (sc : Scope) (es : List Expr) (T : LE) : Prop :=
  ∀ (f : Fx) (hid : List Addr) (m : Str → Option Value) (σ : Sg) (s : Shared) (Q : List V → Prop) (X : Prop) (pos : Pos), f.sc = sc → FxOk cx f hid k → St cx f hid s.heap m σ → T σ Q X →
    wpAny (model cx.prog cx.w) f.A (spliced (backTo pos (starEach es f.env))) (LvQ cx f hid m σ s es.length Q) (EvE cx f s X) s
theorem Evs.nil : Evs cx k sc [] (fun _ Q _ => Q []) := fun f hid m σ s Q X pos hs ok st h => wpAny_items_nil ⟨rfl, [], h, trivial, st, .refl _ _, .refl _⟩
noncomputable def LE.cons (a : SE) (b : LE) : LE := fun σ Q X => a σ (fun x => b σ (fun xs => Q (x :: xs)) X) X
theorem Evs.cons {e es a b} (ha : Ev cx k sc e a) (hb : Evs cx k sc es b) (hst : ∀ env, starEach (e :: es) env = (false, eval e env) :: starEach es env) : Evs cx k sc (e :: es) (LE.cons a b) := fun f hid m σ s Q X pos hs ok st h =>
  wpAny_items_cons (ha.go hs ok st h (.refl _ _) (.refl _) fun v x s₁ hx rx st₁ _ p₁ z₁ =>
    wpAny_mono (hb f hid m σ s₁ _ X pos hs ok st₁ hx) (fun vs s₂ ⟨n, ds, h1, h2, h3, h4, h5⟩ => ⟨by rw [List.length_cons, List.length_cons, n], x :: ds, h1, ⟨rx.next ok h4, h2⟩, h3, p₁.trans h4, z₁.trans h5⟩)
      fun _ _ x => x.back st₁.fr p₁ z₁ id) (hst _)

/-- a new object -/
theorem St.push {f : Fx} {hid : List Addr} {h : Heap} {m : Str → Option Value} {σ : Sg} (ok : FxOk cx f hid k) (st : St cx f hid h m σ) (o : Obj) : St cx f hid (h.push o) m σ ∧ Pres f h (h.push o) :=
  have p : Pres f h (h.push o) := Pres.of_keeps fun b o' e => Heap.get?_push_of_some _ e
  ⟨st.next ok p (st.fr.push o) rfl, p⟩
theorem new_vis {f : Fx} {hid : List Addr} {h : Heap} {m : Str → Option Value} {σ : Sg} (st : St cx f hid h m σ) (o : Obj) (hf : o.isFreed = false) : (hideAll (h.push o) hid).get? h.objs.size = some o :=
  hideAll_get _ (Heap.get?_push_size _ hf) fun hm => by
    obtain ⟨o', e⟩ := st.old _ hm
    exact Nat.lt_irrefl _ (Heap.lt_size e)

noncomputable def SE.tuple (l : LE) : SE := fun σ Q X => l σ (fun ds => allD ds fun xs => Q (.d (.tuple xs))) X
theorem Ev.tuple {es n pos l} (hl : Evs cx k sc es l) (hn : es.length ≤ 1000) : Ev cx k sc (.Tuple es n pos) (SE.tuple l) := fun f hid m σ s Q X hs ok st h =>
  wpAny_Tuple (wpAny_mono (hl f hid m σ s _ X pos hs ok st h) (fun vs s₁ ⟨n, ds, h1, h2, h3, h4, h5⟩ => by
    obtain ⟨xs, as, q1, q2, q3⟩ := allD_reads h2 h1
    obtain ⟨st', p'⟩ := h3.push ok { cls := .type "tuple", data := .seq vs.toArray }
    refine ⟨by rw [n, sizeLine_eq]; omega, EvQ.mk q1 ?_ st' (h4.trans p') ⟨h5.1, h5.2, h5.3⟩⟩
    exact ⟨as, .tuple (new_vis h3 _ rfl) rfl rfl (ReadsAll.keeps (hideAll_mono (fun b o e _ => Heap.get?_push_of_some _ e) fun _ _ _ hb => hb) q2)⟩) fun _ _ x => x)
noncomputable def SE.list (l : LE) : SE := fun σ Q X => l σ (fun ds => allD ds fun xs => Q (.d (.list xs))) X
theorem Ev.list {es pos l} (hl : Evs cx k sc es l) (hn : es.length ≤ 1000) : Ev cx k sc (.List es pos) (SE.list l) := fun f hid m σ s Q X hs ok st h =>
  wpAny_List (wpAny_mono (hl f hid m σ s _ X pos hs ok st h) (fun vs s₁ ⟨n, ds, h1, h2, h3, h4, h5⟩ => by
    obtain ⟨xs, as, q1, q2, q3⟩ := allD_reads h2 h1
    obtain ⟨st', p'⟩ := h3.push ok { cls := .type "list", data := .seq vs.toArray }
    refine ⟨by rw [n, sizeLine_eq]; omega, EvQ.mk q1 ?_ st' (h4.trans p') ⟨h5.1, h5.2, h5.3⟩⟩
    exact ⟨_, .list (new_vis h3 _ rfl) rfl rfl (ReadsAll.keeps (hideAll_mono (fun b o e _ => Heap.get?_push_of_some _ e) fun _ _ _ hb => hb) q2)⟩) fun _ _ x => x)

/-! ## items -/
theorem seqIndex_of {i : Int} {n : Nat} (h : 0 ≤ i) (hn : i.toNat < n) : seqIndex? i n = some i.toNat := by
  unfold seqIndex?
  have h1 : ¬ i < 0 := by omega
  simp only [h1, if_false]
  simp
  omega
theorem valueAt_rows {x : Str} {b : Bool} : ∀ {kvs : List (Str × Bool)}, kvs.lookup x = some b → valueAt (kvs.map fun p => (p.1, Value.bool p.2)) x = some (.bool b)
  | [], h => by cases h
  | (y, c) :: kvs, h => by
    rw [List.lookup_cons] at h
    rw [List.map_cons]
    by_cases q : x = y
    · subst q
      rw [beq_self_eq_true] at h
      obtain rfl := Option.some.inj h
      unfold valueAt
      rw [List.find?_cons_of_pos (by simp)]
      rfl
    · have hb : (x == y) = false := beq_eq_false_iff_ne.mpr q
      rw [hb] at h
      have ih := valueAt_rows (kvs := kvs) h
      unfold valueAt at ih ⊢
      rw [List.find?_cons_of_neg (by simpa using fun z => q z.symm)]
      exact ih
noncomputable def subP : V → V → (V → Prop) → Prop
  | .d (.tuple xs), .d (.int i), Q => (0 ≤ i ∧ i < 1000) ∧ ∃ d, xs[i.toNat]? = some d ∧ Q (.d d)
  | .d (.list xs), .d (.int i), Q => (0 ≤ i ∧ i < 1000) ∧ ∃ d, xs[i.toNat]? = some d ∧ Q (.d d)
  | .d (.str x), .d (.int i), Q => (0 ≤ i ∧ i < x.length ∧ i < 1000) ∧ Q (S (Txt.item x i))
  | .rows kvs, .d (.str x), Q => ∃ b, kvs.lookup x = some b ∧ Q (B b)
  | _, _, _ => False
theorem sub_ok {value slice : Expr} {f : Fx} {hid : List Addr} {m : Str → Option Value} {σ : Sg} {s : Shared} {Q : V → Prop} {X : Prop} {x y : V} {v w : Value} (ok : FxOk cx f hid k) (st : St cx f hid s.heap m σ)
    (hs : ∀ o i, subscripted slice false o i = operate [o, i] (getItem o i)) (hg : (∀ o r, letTemporaryGo value o r = pure ()) ∨ ((∃ z, x = S z) ∧ ∀ z t r, letTemporaryGo value (.str z t) r = pure ()))
    (rx : Rep cx.LC hid s.heap x v) (ry : Rep cx.LC hid s.heap y w) (h : subP x y Q) : wpAny (model cx.prog cx.w) f.A (subscriptTail value slice v w) (EvQ cx f hid m s Q) (EvE cx f s X) s := by
  unfold subP at h
  split at h
  · obtain ⟨⟨h1, h2⟩, d, h3, h4⟩ := h
    obtain ⟨u, rfl⟩ := int_rep ry
    obtain ⟨as, r⟩ := rx
    cases r with
    | tuple e1 e2 e3 e4 =>
      obtain ⟨v', bs, g1, g2⟩ := readsAll_get e4 h3
      refine item_tupleT (l := _) ⟨_, of_hideAll _ e1, e2, _, e3⟩ (by omega) (by omega) (j := Int.toNat _) ?_ g1 (evq st h4 ⟨bs, g2⟩ s.toks) (hs _ _)
      have hlt' := (List.getElem?_eq_some_iff.mp g1).1
      exact seqIndex_of h1 hlt'
  · obtain ⟨⟨h1, h2⟩, d, h3, h4⟩ := h
    obtain ⟨u, rfl⟩ := int_rep ry
    obtain ⟨as, r⟩ := rx
    cases r with
    | list e1 e2 e3 e4 =>
      obtain ⟨v', bs, g1, g2⟩ := readsAll_get e4 h3
      refine item_list ⟨_, of_hideAll _ e1, e2, _, e3⟩ h1 (by omega) (by simpa using g1) (evq st h4 ⟨bs, g2⟩ s.toks) (hs _ _) fun r => ?_
      rcases hg with hg | ⟨⟨z, q⟩, _⟩
      · exact hg _ _
      · cases q
  · obtain ⟨⟨h1, h2, h3⟩, h4⟩ := h
    obtain ⟨u, rfl⟩ := int_rep ry
    obtain ⟨t, rfl⟩ := str_rep rx
    refine item_str ?_ (by omega) h2 (fun _ => evq st h4 (rep_str _ _) _) (hs _ _) fun r => ?_
    · unfold fitsSsize; simp; omega
    · rcases hg with hg | ⟨_, hg⟩
      · exact hg _ _
      · exact hg _ _ _
  · obtain ⟨b, h1, h2⟩ := h
    obtain ⟨u, rfl⟩ := str_rep ry
    obtain ⟨a, rfl, e0, e1⟩ := rx
    have e1' := e1.keep fun _ _ e => of_hideAll _ e
    refine subscriptTail_ops e1'.typeIs slot_dict_getitem.lookup (wpAny_getItem_of (prog := cx.prog) (w := cx.w) (strKind_is _ _ _ _) e1'.mapOf (valueAt_rows h1) (evq st h2 (rep_bool _) _)) (hs _ _) fun r => ?_
    rcases hg with hg | ⟨⟨z, q⟩, _⟩
    · exact hg _ _
    · cases q
  · exact h.elim
noncomputable def SE.sub (a b : SE) : SE := fun σ Q X => a σ (fun x => b σ (fun y => subP x y Q) X) X
theorem Ev.sub {x np slice pos a b} (ha : Ev cx k sc (.Name x np) a) (hb : Ev cx k sc slice b) (hs : ∀ o i, subscripted slice false o i = operate [o, i] (getItem o i)) : Ev cx k sc (.Subscript (.Name x np) slice pos) (SE.sub a b) :=
  fun f hid m σ s Q X hs' ok st h => Subscript_ (ha.go hs' ok st h (.refl _ _) (.refl _) fun v x s₁ hx rx st₁ _ p₁ z₁ => hb.go hs' ok st₁ hx p₁ z₁ fun w y s₂ hy ry st₂ q₂ p₂ z₂ =>
    prim ok st₂ p₂ z₂ (sub_ok ok st₂ hs (.inl fun _ _ => rfl) (rx.next ok q₂) ry hy) fun _ _ _ h1 h2 h3 h4 h5 h6 => .mk h1 h2 h3 h5 h6)
theorem Ev.subStr {c n np slice pos b} (hb : Ev cx k sc slice b) (hs : ∀ o i, subscripted slice false o i = operate [o, i] (getItem o i)) : Ev cx k sc (.Subscript (.Constant (.str c) n np) slice pos) (SE.sub (fun _ Q _ => Q (S c)) b) :=
  fun f hid m σ s Q X hs' ok st h => Subscript_ (wpAny_Constant_str (hb.go (s := { s with toks := s.toks + 1 }) (s₀ := s) hs' ok st h (.refl _ _) ⟨rfl, rfl, rfl⟩ fun w y s₂ hy ry st₂ q₂ p₂ z₂ =>
    prim ok st₂ p₂ z₂ (sub_ok ok st₂ hs (.inr ⟨⟨c, rfl⟩, fun _ _ _ => rfl⟩) (rep_str c _) ry hy) fun _ _ _ h1 h2 h3 h4 h5 h6 => EvQ.mk h1 h2 h3 h5 h6))

end

-- the part M5
/-- a name of the text's that is not bound at the top: a built-in -/
noncomputable def BN (cx : Cx) (x : Str) (v : Value) : Prop := nsIn cx.K mainGlobals x = some none ∧ bootBuiltins x = some v ∧ x ≠ "__name__"

section
variable {cx : Cx} {k : Nat} {sc : Scope}
noncomputable abbrev PS := List V → (V → Prop) → Prop

/-- a built-in's call upon abstract values -/
noncomputable def Prim (cx : Cx) (k : Nat) (bv : Value) (P : PS) : Prop :=
  ∀ (f : Fx) (hid : List Addr) (m : Str → Option Value) (σ : Sg) (s : Shared) (Q : V → Prop) (X : Prop) (ds : List V) (vs : List Value), FxOk cx f hid k → St cx f hid s.heap m σ → RepL cx.LC hid s.heap ds vs → P ds Q →
    wpAny (model cx.prog cx.w) f.A (call bv vs) (EvQ cx f hid m s Q) (EvE cx f s X) s

noncomputable def SE.prim (P : PS) (l : LE) : SE := fun σ Q X => l σ (fun ds => P ds Q) X
theorem callWith_any {M : Model} {A : Around} {E : Value → Shared → Prop} {s : Shared} {env : Env} {pos : Pos} {bv : Value} {e : Expr} {es : List Expr} {Q : Value → Shared → Prop} (hbv : (∃ id, bv = .builtin id) ∨ ∃ T, bv = .type T)
    (hst : starEach (e :: es) env = (false, eval e env) :: starEach es env) (hp : (backTo pos (starEach es env)).any (·.1) = false)
    (h : wpAny M A (spliced (backTo pos (starEach (e :: es) env))) (fun vs s₁ => wpAny M A (call bv vs) Q E s₁) E s) :
    wpAny M A (callWith pos bv [] (backTo pos (starEach (e :: es) env)) []) Q E s := by
  rw [hst] at h ⊢
  rcases hbv with ⟨id, rfl⟩ | ⟨T, rfl⟩
  · exact callWith_builtin (by show (false || (backTo pos (starEach es env)).any (·.1)) = false; rw [hp]; rfl) (evalArgs_plain h)
  · exact PySem.callWith_type (by show (false || (backTo pos (starEach es env)).any (·.1)) = false; rw [hp]; rfl) (evalArgs_plain h)
theorem Ev.callB {x np e es pos bv l P} (hb : BN cx x bv) (hP : Prim cx k bv P) (hl : Evs cx k sc (e :: es) l) (hx : sc.names.lookup x = some .globalImplicit) (hd : (x == ("__debug__" : Str)) = false)
    (hbv : (∃ id, bv = .builtin id) ∨ ∃ T, bv = .type T) (hst : ∀ env, starEach (e :: es) env = (false, eval e env) :: starEach es env) (hp : ∀ env, (backTo pos (starEach es env)).any (·.1) = false) :
    Ev cx k sc (.Call (.Name x np) (e :: es) [] pos) (SE.prim P l) := fun f hid m σ s Q X hs ok st h => by
  subst hs
  refine wpAny_Call_ofName (nameX_B (cl := []) st.fr cx.inK cx.read hb.1 hb.2.1 hb.2.2 ?_ ok.hk hx hd)
  refine callWith_any hbv (hst _) (hp _) (wpAny_mono (hl f hid m σ s _ X pos rfl ok st h) (fun vs s₁ ⟨n, ds, h1, h2, h3, h4, h5⟩ => ?_) fun _ _ x => x)
  exact prim ok h3 h4 h5 (hP f hid m σ s₁ Q X ds vs ok h3 h2 h1) fun _ _ _ h1 h2 h3 h4 h5 h6 => .mk h1 h2 h3 h5 h6

noncomputable def absP : PS
  | [.d (.int a)], Q => Q (I (if a < 0 then -a else a))
  | _, _ => False
theorem prim_abs : Prim cx k (.builtin "abs") absP := fun f hid m σ s Q X ds vs ok st r h => by
  unfold absP at h
  split at h
  · obtain ⟨v, rfl⟩ : ∃ v, vs = [v] := by
      rcases vs with _ | ⟨v, _ | _⟩
      · exact r.elim
      · exact ⟨v, rfl⟩
      · exact r.2.elim
    obtain ⟨t, rfl⟩ := int_rep r.1
    exact call_abs_int fun u tk => evq st h (rep_int _ _) _
  · exact h.elim

theorem repL2 {LC : RC} {hid : List Addr} {h : Heap} {a b : V} {vs : List Value} (r : RepL LC hid h [a, b] vs) : ∃ v w, vs = [v, w] ∧ Rep LC hid h a v ∧ Rep LC hid h b w := by
  rcases vs with _ | ⟨v, _ | ⟨w, _ | _⟩⟩
  · exact r.elim
  · exact r.2.elim
  · exact ⟨v, w, rfl, r.1, r.2.1⟩
  · exact r.2.2.elim
theorem repL1 {LC : RC} {hid : List Addr} {h : Heap} {a : V} {vs : List Value} (r : RepL LC hid h [a] vs) : ∃ v, vs = [v] ∧ Rep LC hid h a v := by
  rcases vs with _ | ⟨v, _ | _⟩
  · exact r.elim
  · exact ⟨v, rfl, r.1⟩
  · exact r.2.elim
theorem evq_keeps {f : Fx} {hid : List Addr} {m : Str → Option Value} {σ : Sg} {s : Shared} {Q : V → Prop} (ok : FxOk cx f hid k) (st : St cx f hid s.heap m σ) {h' : Heap} (kp : ∀ c o, s.heap.get? c = some o → h'.get? c = some o) {d : V} {v : Value} (q : Q d) (r : Rep cx.LC hid h' d v) (tk : Nat) : EvQ cx f hid m s Q v { s with heap := h', toks := tk } :=
  have p := Pres.of_keeps (f := f) kp
  ⟨d, q, r, st.fr.grownK kp, p, ⟨rfl, rfl, rfl⟩⟩

noncomputable def maxP : PS
  | [.d (.int a), .d (.int b)], Q => Q (I (max a b))
  | _, _ => False
theorem prim_max : Prim cx k (.builtin "max") maxP := fun f hid m σ s Q X ds vs ok st r h => by
  unfold maxP at h
  split at h
  · obtain ⟨v, w, rfl, r1, r2⟩ := repL2 r
    obtain ⟨t, rfl⟩ := int_rep r1; obtain ⟨u, rfl⟩ := int_rep r2
    rename_i a b
    refine max_two_ints ok.hh fun h' tk kp => ?_
    by_cases c : b > a
    · rw [if_pos c]; rw [show max a b = b from by omega] at h; exact evq_keeps ok st kp h (rep_int _ _) _
    · rw [if_neg c]; rw [show max a b = a from by omega] at h; exact evq_keeps ok st kp h (rep_int _ _) _
  · exact h.elim
noncomputable def minP : PS
  | [.d (.int a), .d (.int b)], Q => Q (I (min a b))
  | _, _ => False
theorem prim_min : Prim cx k (.builtin "min") minP := fun f hid m σ s Q X ds vs ok st r h => by
  unfold minP at h
  split at h
  · obtain ⟨v, w, rfl, r1, r2⟩ := repL2 r
    obtain ⟨t, rfl⟩ := int_rep r1; obtain ⟨u, rfl⟩ := int_rep r2
    rename_i a b
    refine min_two_ints ok.hh fun h' tk kp => ?_
    by_cases c : b < a
    · rw [if_pos c]; rw [show min a b = b from by omega] at h; exact evq_keeps ok st kp h (rep_int _ _) _
    · rw [if_neg c]; rw [show min a b = a from by omega] at h; exact evq_keeps ok st kp h (rep_int _ _) _
  · exact h.elim
noncomputable def divmodP : PS
  | [.d (.int a), .d (.int b)], Q => b ≠ 0 ∧ Q (.d (.tuple [.int (a.fdiv b), .int (a.fmod b)]))
  | _, _ => False
theorem prim_divmod : Prim cx k (.builtin "divmod") divmodP := fun f hid m σ s Q X ds vs ok st r h => by
  unfold divmodP at h
  split at h
  · obtain ⟨v, w, rfl, r1, r2⟩ := repL2 r
    obtain ⟨t, rfl⟩ := int_rep r1; obtain ⟨u, rfl⟩ := int_rep r2
    rename_i a b
    refine divmod_int h.1 ?_ (.inr (pylong ok st.fr))
    refine evq_keeps ok st (fun c o e => Heap.get?_push_of_some _ e) h.2 ⟨_, .tuple (new_vis st _ rfl) rfl rfl (.cons (.int _ _) (.cons (.int _ _) .nil))⟩ _
  · exact h.elim
noncomputable def lenP : PS
  | [.d (.str x)], Q => x.length ≤ 1000000 ∧ Q (I x.length)
  | [.d (.list xs)], Q => xs.length ≤ 1000000 ∧ Q (I xs.length)
  | _, _ => False
theorem prim_len : Prim cx k (.builtin "len") lenP := fun f hid m σ s Q X ds vs ok st r h => by
  unfold lenP at h
  split at h
  · obtain ⟨v, rfl, r1⟩ := repL1 r
    obtain ⟨t, rfl⟩ := str_rep r1
    exact PyProof.Rows.len_str (by omega) (evq st h.2 (rep_int _ _) _)
  · obtain ⟨v, rfl, r1⟩ := repL1 r
    obtain ⟨as, r1⟩ := r1
    cases r1 with
    | list e1 e2 e3 e4 =>
      have e := readsAll_len e4
      rw [Array.length_toList] at e
      exact len_list ⟨_, of_hideAll _ e1, e2, _, e3⟩ (by omega) (by rw [e]; exact evq st h.2 (rep_int _ _) _)
  · exact h.elim
noncomputable def strP : PS
  | [.d (.int a)], Q => a.natAbs < 10 ^ 500 ∧ Q (S (Str.ofString (toString a)))
  | _, _ => False
theorem log_of_lt {n : Nat} (h : n < 10 ^ 500) : n.log2 < 1920 := by
  by_cases h0 : n = 0
  · subst h0; decide
  · exact (Nat.log2_lt h0).mpr (Nat.lt_trans h (by decide +kernel))
theorem prim_str : Prim cx k (.type "str") strP := fun f hid m σ s Q X ds vs ok st r h => by
  unfold strP at h
  split at h
  · obtain ⟨v, rfl, r1⟩ := repL1 r
    obtain ⟨t, rfl⟩ := int_rep r1
    exact P.str_of_int (log_of_lt h.1) (evq st h.2 (rep_str _ _) _)
  · exact h.elim
noncomputable def intP : PS
  | [.d (.str x)], Q => ∃ n, PySem.intText? x = some n ∧ x.length ≤ 640 ∧ Q (I n)
  | _, _ => False
theorem prim_int : Prim cx k (.type "int") intP := fun f hid m σ s Q X ds vs ok st r h => by
  unfold intP at h
  split at h
  · obtain ⟨v, rfl, r1⟩ := repL1 r
    obtain ⟨t, rfl⟩ := str_rep r1
    obtain ⟨n, h1, h2, h3⟩ := h
    exact KIN.call_text h1 h2 (evq st h3 (rep_int _ _) _)
  · exact h.elim
noncomputable def rangeP : PS
  | [.d (.int a)], Q => Q (.rng a)
  | _, _ => False
theorem prim_range : Prim cx k (.type "range") rangeP := fun f hid m σ s Q X ds vs ok st r h => by
  unfold rangeP at h
  split at h
  · obtain ⟨v, rfl, r1⟩ := repL1 r
    obtain ⟨t, rfl⟩ := int_rep r1
    exact call_range_1 (evq_keeps ok st (fun c o e => Heap.get?_push_of_some _ e) h ⟨_, _, _, _, rfl, new_vis st _ rfl⟩ _)
  · exact h.elim
noncomputable def ordP : PS
  | [.d (.str x)], Q => x.length = 1 ∧ Q (I (x.cps.getD 0 0 : Nat))
  | _, _ => False
theorem prim_ord : Prim cx k (.builtin "ord") ordP := fun f hid m σ s Q X ds vs ok st r h => by
  unfold ordP at h
  split at h
  · obtain ⟨v, rfl, r1⟩ := repL1 r
    obtain ⟨t, rfl⟩ := str_rep r1
    exact ord_of_one h.1 (evq st h.2 (rep_int _ _) _)
  · exact h.elim

/-! the one method of texts -/
noncomputable def SE.rstrip (a b : SE) : SE := fun σ Q X => a σ (fun x => ∃ u, x = S u ∧ u.length ≤ 100000 ∧ b σ (fun y => ∃ v, y = S v ∧ Q (S (Txt.rstripChars u v))) X) X
theorem Ev.rstrip {o apos e pos a b} (ha : Ev cx k sc o a) (hb : Ev cx k sc e b) (hbase : ∀ env, attributeBase o "rstrip" env (eval o env) = eval o env)
    (hst : ∀ env, starEach [e] env = [(false, eval e env)]) (hline : (apos.endLine == pos.line) = true) : Ev cx k sc (.Call (.Attribute o "rstrip" apos) [e] [] pos) (SE.rstrip a b) := fun f hid m σ s Q X hs ok st h => by
  refine wpAny_Call_method_lateS (hbase _) (by rw [hst]; rfl) hline (ha.go hs ok st h (.refl _ _) (.refl _) fun v x s₁ hx rx st₁ _ p₁ z₁ => ?_)
  rw [hst]
  obtain ⟨x, rfl, hl, hx⟩ := hx
  obtain ⟨t, rfl⟩ := str_rep rx
  refine SB.rstripChars (a := _) (hb.go hs ok st₁ hx p₁ z₁ fun w y s₂ hy ry st₂ q₂ p₂ z₂ => ?_) (by rw [sizeLine_eq]; omega)
  obtain ⟨y, rfl, hy⟩ := hy
  obtain ⟨u, rfl⟩ := str_rep ry
  exact ⟨_, _, rfl, fun t' tk => EvQ.mk hy (rep_str _ _) (s₁ := { s₂ with toks := tk }) st₂ p₂ ⟨z₂.1, z₂.2, z₂.3⟩⟩

end

-- the part M6
noncomputable def InTb (cx : Cx) (f : Fx) (h : Heap) (a : Addr) (fl : Value) (h' : Heap) : Prop :=
  (∃ m, Fr cx.H₀ f.L h' m) ∧ Pres f h h' ∧ h.get? a = none ∧ ∃ oe vs a0 T oT ts, h'.get? a = some oe ∧ oe.cls = .ref cx.RF ∧ oe.data = .fields vs ∧ vs[0]? = some a0 ∧
    vs[1]? = some (.ref T) ∧ h.get? T = none ∧ T ≠ a ∧ h'.get? T = some oT ∧ oT.data = .fields ts ∧ ts[3]? = some fl
theorem InTb.fl {cx : Cx} {f : Fx} {h h' : Heap} {a : Addr} {fl : Value} (x : InTb cx f h a fl h') (hf : fl = .none ∨ fl = rawInt f.L) : InFl cx f h a h' := by
  obtain ⟨x1, x2, x3, oe, vs, a0, T, oT, ts, y1, y2, y3, y4, y5, y6, y7, y8, y9, y10⟩ := x
  exact ⟨x1, x2, x3, oe, vs, a0, y1, y2, y3, y4, .inr ⟨T, oT, ts, fl, y5, y6, y7, y8, y9, y10, hf⟩⟩

section
variable {cx : Cx} {k : Nat}

theorem ns_notFields {h : Heap} {a : Addr} {m : Str → Option Value} (n : h.Ns a m) : ∃ o, h.get? a = some o ∧ ∀ vs, o.data ≠ .fields vs := by
  obtain ⟨o, es, ep, ho, hd, _⟩ := n
  exact ⟨o, ho, fun vs q => by rw [hd] at q; cases q⟩
theorem rebase {base base' h : Heap} : ∀ {l : List Env}, h.FunFrames base l → (∀ a ∈ l.filterMap (·.frame), base'.get? a = none) → h.FunFrames base' l
  | [], _, _ => trivial
  | env :: l, ⟨hk, ⟨L, o, hf, hn, ho, hd⟩, hr⟩, k => by
    have hm : L ∈ (env :: l).filterMap (·.frame) := by rw [List.filterMap_cons, hf]; exact .head _
    refine ⟨hk, ⟨L, o, hf, k L hm, ho, hd⟩, rebase hr fun a ha => k a ?_⟩
    rw [List.filterMap_cons, hf]; exact .tail _ ha

noncomputable abbrev bare (f : Fx) (h : Heap) : Heap := hideAll h (f.L :: f.of)
theorem bare_none {f : Fx} {h : Heap} {b : Addr} (e : h.get? b = none) : (bare f h).get? b = none := by
  cases q : (bare f h).get? b with
  | none => rfl
  | some o => rw [of_hideAll _ q] at e; cases e
theorem bare_stays {f : Fx} {h h' : Heap} (p : Pres f h h') : (bare f h).StaysIn h' := fun b o e => by
  have hb : b ∉ f.L :: f.of := fun hm => by rw [hideAll_none _ hm] at e; cases e
  exact (p b o (of_hideAll _ e) fun q => hb (q ▸ .head _)).1 fun q => hb (.tail _ q)
theorem env_frames {f : Fx} : (f.env :: f.outer).filterMap (·.frame) = f.L :: f.of := rfl
/-- all frames stand -/
theorem all_frames {f : Fx} {hid : List Addr} {h h' : Heap} {m m' : Str → Option Value} {σ : Sg} (ok : FxOk cx f hid k) (st : St cx f hid h m σ) (p : Pres f h h') (F : Fr cx.H₀ f.L h' m') : h'.FunFrames (bare f h) (f.env :: f.outer) := by
  obtain ⟨o, ho, hd⟩ := ns_notFields F.ns
  refine ⟨by show f.sc.kind ≠ .module; rw [ok.hk]; decide, ⟨f.L, o, rfl, hideAll_none _ (.head _), ho, hd⟩, rebase (base := cx.H₀) (funFrames_pres (fun b hb o e => (p b o e fun q => ok.Lof (q ▸ hb)).2) st.frames) fun a ha => hideAll_none _ (.tail _ ha)⟩
/-- a step of the flight keeps what must be kept -/
theorem flight_keeps {f : Fx} {hid : List Addr} {h h' h'' : Heap} {m m' : Str → Option Value} {σ : Sg} (ok : FxOk cx f hid k) (st : St cx f hid h m σ) (p : Pres f h h') (F : Fr cx.H₀ f.L h' m')
    (k1 : (bare f h).StaysIn h'') (k4 : ∀ b o, h'.get? b = some o → (∀ vs, o.data ≠ .fields vs) → ∃ sl, h''.get? b = some { o with slots := sl }) : (∃ m, Fr cx.H₀ f.L h'' m) ∧ Pres f h h'' := by
  have FF := all_frames ok st p F
  refine ⟨⟨m', Heap.UpToSlots.ns k4 F.ns, fun b o e => ?_, F.above⟩, fun b o e n => ?_⟩
  · refine k1 b o (hideAll_get _ (st.fr.keep b o e) fun hm => ?_)
    have hb : b ∈ hid := by rcases List.mem_cons.mp hm with q | q; exact q ▸ ok.Lhid; exact ok.ohid b q
    rw [ok.h0 b hb] at e; cases e
  · by_cases hb : b ∈ f.of
    · obtain ⟨sl, e'⟩ := (p b o e n).2
      obtain ⟨_, o', ho', hd'⟩ := FF.mem (b := b) (by rw [env_frames]; exact .tail _ hb)
      rw [e'] at ho'
      obtain rfl := Option.some.inj ho'
      obtain ⟨sl', e''⟩ := k4 b _ e' hd'
      exact ⟨fun q => absurd hb q, sl', e''⟩
    · have := k1 b o (hideAll_get _ e fun hm => (List.mem_cons.mp hm).elim n hb)
      exact ⟨fun _ => this, o.slots, this⟩

theorem no_frame {f : Fx} {hid : List Addr} {h h' : Heap} {m m' : Str → Option Value} {σ : Sg} (ok : FxOk cx f hid k) (st : St cx f hid h m σ) (p : Pres f h h') (F : Fr cx.H₀ f.L h' m') {T : Addr} {oT : Obj} {ts : Array Value} (hT : h'.get? T = some oT) (hd : oT.data = .fields ts) (hn : (bare f h).get? T = none) : h.get? T = none := by
  cases q : h.get? T with
  | none => rfl
  | some o =>
    by_cases hm : T ∈ f.L :: f.of
    · obtain ⟨_, o', ho', hd'⟩ := (all_frames ok st p F).mem (b := T) hm
      rw [hT] at ho'; obtain rfl := Option.some.inj ho'
      exact absurd hd (hd' ts)
    · rw [hideAll_get _ q hm] at hn; cases hn

theorem note_ok {f : Fx} {hid : List Addr} {h : Heap} {m : Str → Option Value} {σ : Sg} {s : Shared} {a : Addr} {E : Value → Shared → Prop} {Q : Unit → Shared → Prop} (ok : FxOk cx f hid k) (st : St cx f hid h m σ) (x : InFl cx f h a s.heap)
    {A : Around} (hA : A.frames = f.A.frames) (K : ∀ h', InTb cx f h a (rawInt f.L) h' → Q () { s with heap := h' }) : wpAny (model cx.prog cx.w) A (noteFrame (.ref a) f.env) Q E s := by
  obtain ⟨⟨m', F⟩, p, hn, oe, vs, a0, y1, y2, y3, y4, y5⟩ := x
  have FF := all_frames ok st p F
  have hA' : A.frames = some (f.env :: f.outer) := hA.trans ok.hA
  have done : ∀ h', Heap.NotedW (bare f h) (f.env :: f.outer) a (.ref cx.RF) a0 (rawInt f.L) s.heap h' → Q () { s with heap := h' } := fun h' hN => by
    obtain ⟨k1, k2, ⟨oe', vs', T, oT, ts, z1, z2, z3, z4, z5, z6, z7, z8, z9⟩, k4⟩ := hN
    obtain ⟨⟨m'', F''⟩, p''⟩ := flight_keeps ok st p F k1 k4
    exact K h' ⟨⟨m'', F''⟩, p'', hn, oe', vs', a0, T, oT, ts, z1, z2.1, z3, z2.2, z4, no_frame ok st p'' F'' z7 z8 z5, z6, z7, z8, z9⟩
  rcases y5 with y5 | ⟨T, oT, ts, fl, z1, z2, z3, z4, z5, z6, rfl | rfl⟩
  · unfold noteFrame
    simp only [show f.env.frame = some f.L from rfl]
    refine wpAny_bind (wpAny_field y1 y3 y5 ?_)
    rw [if_neg (by decide)]
    refine wpAny_entryW (a0 := a0) hA' FF rfl y1 (bare_stays p) (bare_none hn) y3 (Array.getElem?_eq_some_iff.mp y5).1 y4 fun h' hN => done h' ?_
    rw [← y2]; exact hN
  · exact wpAny_noteFrame_onW hA' FF rfl ⟨oe, vs, T, oT, ts, y1, ⟨y2, y4⟩, y3, z1, bare_none z2, z3, z4, z5, z6⟩ (bare_stays p) (bare_none hn) done
  · exact wpAny_noteFrame_inFlight rfl y1 y3 z1 z4 z5 z6 (K s.heap ⟨⟨m', F⟩, p, hn, oe, vs, a0, T, oT, ts, y1, y2, y3, y4, z1, z2, z3, z4, z5, z6⟩)

theorem setFlight_ok {f : Fx} {hid : List Addr} {h : Heap} {m : Str → Option Value} {σ : Sg} {s : Shared} {a : Addr} {fl : Value} {fr : Option Addr} {E : Value → Shared → Prop} {Q : Unit → Shared → Prop} (ok : FxOk cx f hid k) (st : St cx f hid h m σ) (x : InTb cx f h a fl s.heap)
    {A : Around} (K : ∀ h', InTb cx f h a (fr.elim .none fun b => rawInt b) h' → Q () { s with heap := h' }) : wpAny (model cx.prog cx.w) A (setFlight (.ref a) fr) Q E s := by
  obtain ⟨⟨m', F⟩, p, hn, oe, vs, a0, T, oT, ts, y1, y2, y3, y4, z1, z2, z3, z4, z5, z6⟩ := x
  unfold setFlight
  refine wpAny_bind (wpAny_field y1 y3 z1 ?_)
  rw [if_pos (show (Value.ref T != Value.none) = true from by simp)]
  have hsz : 3 < ts.size := (Array.getElem?_eq_some_iff.mp z6).1
  refine wpAny_setField z4 z5 hsz (K _ ?_)
  have other : ∀ b, b ≠ T → (s.heap.update T (Obj.mapFields (·.setIfInBounds 3 (fr.elim .none fun b => rawInt b)))).get? b = s.heap.get? b := fun b hb => Heap.get?_update_other _ _ (Ne.symm hb)
  have nT : ∀ b o, s.heap.get? b = some o → (∀ vs, o.data ≠ .fields vs) → b ≠ T := fun b o hb hnf q => by
    rw [q, z4] at hb; obtain rfl := Option.some.inj hb; exact hnf ts z5
  obtain ⟨⟨m'', F''⟩, p''⟩ := flight_keeps ok st p F (h'' := s.heap.update T (Obj.mapFields (·.setIfInBounds 3 (fr.elim .none fun b => rawInt b))))
    (fun b o e => (other b fun q => by rw [q, bare_none z2] at e; cases e).trans (bare_stays p b o e)) fun b o hb hnf => ⟨o.slots, (other b (nT b o hb hnf)).trans hb⟩
  have hd := Obj.data_mapFields z5 (·.setIfInBounds 3 (fr.elim Value.none fun b => rawInt b))
  exact ⟨⟨m'', F''⟩, p'', hn, oe, vs, a0, T, _, _, (other a (Ne.symm z3)).trans y1, y2, y3, y4, z1, z2, z3, Heap.get?_update_self _ z4 (Obj.isFreed_of_fields hd), hd, by simp [hsz]⟩

/-- an exception leaves a callee's frame -/
theorem InTb.out {f f' : Fx} {hid hid' : List Addr} {h h₁ h'' : Heap} {m m' : Str → Option Value} {σ σ' : Sg} {a : Addr} (ok : FxOk cx f hid (k + 1)) (ok' : FxOk cx f' hid' k) (st : St cx f hid h m σ) (st' : St cx f' hid' h₁ m' σ')
    (ho : f'.outer = f.env :: f.outer) (hk : ∀ b o, h.get? b = some o → h₁.get? b = some o) (hL : h.get? f'.L = none) (x : InTb cx f' h₁ a .none h'') : InFl cx f h a h'' := by
  obtain ⟨⟨m'', F''⟩, p'', hn, oe, vs, a0, T, oT, ts, y1, y2, y3, y4, z1, z2, z3, z4, z5, z6⟩ := x
  have hof : f'.of = f.L :: f.of := by show f'.outer.filterMap (·.frame) = _; rw [ho]; rfl
  have back : ∀ b, h₁.get? b = none → h.get? b = none := fun b e => by
    cases q : h.get? b with
    | none => rfl
    | some o => rw [hk b o q] at e; cases e
  have ne : ∀ b o, h.get? b = some o → b ≠ f'.L := fun b o e q => by rw [q, hL] at e; cases e
  have p : Pres f h h'' := fun b o e n => by
    have q := p'' b o (hk b o e) (ne b o e)
    exact ⟨fun hb => q.1 (by rw [hof]; exact fun hm => (List.mem_cons.mp hm).elim n hb), q.2⟩
  have ns : h''.Ns f.L m := by
    obtain ⟨oL, es, ep, e1, e2⟩ := st.fr.ns
    obtain ⟨sl, e3⟩ := (p'' f.L oL (hk _ _ e1) (ne _ _ e1)).2
    exact ⟨_, es, ep, e3, e2⟩
  exact ⟨⟨m, ns, F''.keep, st.fr.above⟩, p, back a hn, oe, vs, a0, y1, y2, y3, y4, .inr ⟨T, oT, ts, _, z1, back T z2, z3, z4, z5, z6, .inl rfl⟩⟩
end

-- the part M7
/-! ## contracts of the text's own functions -/
noncomputable abbrev Spec := List V → (V → Prop) → Prop → Prop
noncomputable def CallOK (cx : Cx) (k : Nat) (a : Addr) (ds : List V) (Q : V → Prop) (X : Prop) : Prop :=
  ∀ (f : Fx) (hid : List Addr) (m : Str → Option Value) (σ : Sg) (s : Shared) (vs : List Value), FxOk cx f hid k → St cx f hid s.heap m σ → RepL cx.LC hid s.heap ds vs →
    wpAny (model cx.prog cx.w) f.A (call (.ref a) vs) (EvQ cx f hid m s Q) (EvE cx f s X) s
noncomputable def OK (cx : Cx) (k : Nat) (x : Str) (Sp : Spec) : Prop := ∃ a, nsIn cx.K mainGlobals x = some (some (.ref a)) ∧ keepIn cx.K (.ref a) = true ∧ ∀ ds Q X, Sp ds Q X → CallOK cx k a ds Q X

theorem FxOk.lower {cx : Cx} {f : Fx} {hid : List Addr} {k j : Nat} (ok : FxOk cx f hid k) (h : j ≤ k) : FxOk cx f hid j :=
  ⟨ok.hA, ok.hh, ok.hk, ok.hgen, ok.hco, ok.Lhid, ok.ohid, ok.Lof, ok.h0, by have := ok.depth; omega, by have := ok.units; omega⟩
theorem OK.mono {cx : Cx} {k j : Nat} {x : Str} {Sp : Spec} (h : OK cx j x Sp) (hj : j ≤ k) : OK cx k x Sp :=
  let ⟨a, h1, h2, h3⟩ := h; ⟨a, h1, h2, fun ds Q X q f hid m σ s vs ok st r => h3 ds Q X q f hid m σ s vs (ok.lower hj) st r⟩

section
variable {cx : Cx} {k : Nat} {sc : Scope}

noncomputable def SE.call (Sp : Spec) (l : LE) : SE := fun σ Q X => l σ (fun ds => Sp ds Q X) X
theorem Ev.call {x np e es pos l Sp} (hF : OK cx k x Sp) (hl : Evs cx k sc (e :: es) l) (hx : sc.names.lookup x = some .globalImplicit) (hd : (x == ("__debug__" : Str)) = false)
    (hst : ∀ env, starEach (e :: es) env = (false, eval e env) :: starEach es env) (hp : ∀ env, (backTo pos (starEach es env)).any (·.1) = false) :
    Ev cx k sc (.Call (.Name x np) (e :: es) [] pos) (SE.call Sp l) := fun f hid m σ s Q X hs ok st h => by
  subst hs
  obtain ⟨a, h1, h2, h3⟩ := hF
  refine wpAny_Call_ofName (nameX_K (cl := []) st.fr cx.inK cx.read h1 ?_ ok.hk hx hd)
  refine callWith_K (first := []) cx.inK h2 (wpAny_mono (hl f hid m σ s _ X pos rfl ok st h) (fun vs s₁ ⟨n, ds, g1, g2, g3, g4, g5⟩ => ⟨cx.inK.keeps g3.fr.keep, ?_⟩) fun _ _ x => x) (hst _) (hp _)
  exact prim ok g3 g4 g5 (h3 ds Q X g1 f hid m σ s₁ vs ok g3 g2) fun _ _ _ h1 h2 h3 h4 h5 h6 => .mk h1 h2 h3 h5 h6

/-! ## statements -/
structure Post where
  next : Sg → Prop
  ret : V → Prop
  brk : Sg → Prop
  cont : Sg → Prop
  exc : Prop
noncomputable abbrev XE := Sg → Post → Prop
noncomputable def FlQ (cx : Cx) (f : Fx) (hid : List Addr) (s : Shared) (P : Post) : Flow → Shared → Prop := fun fl s' => Pres f s.heap s'.heap ∧ Same s s' ∧ (match fl with
  | .next => ∃ m σ, St cx f hid s'.heap m σ ∧ P.next σ
  | .ret v => ∃ d m σ, St cx f hid s'.heap m σ ∧ Rep cx.LC hid s'.heap d v ∧ P.ret d
  | .brk => ∃ m σ, St cx f hid s'.heap m σ ∧ P.brk σ
  | .cont => ∃ m σ, St cx f hid s'.heap m σ ∧ P.cont σ)
theorem FlQ.back {f : Fx} {hid : List Addr} {s s₁ : Shared} {P : Post} (p : Pres f s.heap s₁.heap) (z : Same s s₁) {fl : Flow} {s' : Shared} (x : FlQ cx f hid s₁ P fl s') : FlQ cx f hid s P fl s' := ⟨p.trans x.1, z.trans x.2.1, x.2.2⟩
noncomputable def Ss (cx : Cx) (k : Nat) (sc : Scope) (c : Stmt) (T : XE) : Prop :=
  ∀ (f : Fx) (hid : List Addr) (m : Str → Option Value) (σ : Sg) (s : Shared) (P : Post), f.sc = sc → FxOk cx f hid k → St cx f hid s.heap m σ → T σ P →
    wpAny (model cx.prog cx.w) f.A (exec c f.env) (FlQ cx f hid s P) (EvE cx f s P.exc) s
noncomputable def SL (cx : Cx) (k : Nat) (sc : Scope) (c : List Stmt) (T : XE) : Prop :=
  ∀ (f : Fx) (hid : List Addr) (m : Str → Option Value) (σ : Sg) (s : Shared) (P : Post), f.sc = sc → FxOk cx f hid k → St cx f hid s.heap m σ → T σ P →
    wpAny (model cx.prog cx.w) f.A (execs c f.env) (FlQ cx f hid s P) (EvE cx f s P.exc) s
theorem SL.go {c : List Stmt} {T : XE} (h : SL cx k sc c T) {f : Fx} {hid : List Addr} {m : Str → Option Value} {σ : Sg} {s s₀ : Shared} {P : Post} (hs : f.sc = sc) (ok : FxOk cx f hid k) (st : St cx f hid s.heap m σ) (hT : T σ P) (p : Pres f s₀.heap s.heap) (z : Same s₀ s) :
    wpAny (model cx.prog cx.w) f.A (execs c f.env) (FlQ cx f hid s₀ P) (EvE cx f s₀ P.exc) s :=
  wpAny_mono (h f hid m σ s P hs ok st hT) (fun _ _ x => x.back p z) fun _ _ x => x.back st.fr p z id

theorem SL.nil : SL cx k sc [] (fun σ P => P.next σ) := fun f hid m σ s P hs ok st h => wpAny_execs_nil ⟨.refl _ _, .refl _, m, σ, st, h⟩
noncomputable def XE.seq (a b : XE) : XE := fun σ P => a σ ⟨fun τ => b τ P, P.ret, P.brk, P.cont, P.exc⟩
theorem SL.cons {c cs a b} (ha : Ss cx k sc c a) (hb : SL cx k sc cs b) : SL cx k sc (c :: cs) (XE.seq a b) := fun f hid m σ s P hs ok st h =>
  wpAny_execs_cons (wpAny_mono (ha f hid m σ s _ hs ok st h) (fun fl s₁ ⟨p, z, q⟩ => by
    cases fl with
    | next =>
      obtain ⟨m', σ', st', q⟩ := q
      exact hb.go hs ok st' q p z
    | ret v => exact ⟨p, z, q⟩
    | brk => exact ⟨p, z, q⟩
    | cont => exact ⟨p, z, q⟩) fun _ _ x => x)

theorem St.move {f : Fx} {hid : List Addr} {h h' : Heap} {m m' : Str → Option Value} {σ σ' : Sg} (ok : FxOk cx f hid k) (s : St cx f hid h m σ) (p : Pres f h h') (F : Fr cx.H₀ f.L h' m')
    (e : ∀ x d, σ' x = some d → ∃ v, m' x = some v ∧ Rep cx.LC hid h' d v) : St cx f hid h' m' σ' := by
  refine ⟨F, e, funFrames_pres (fun b hb o e => ?_) s.frames, fun a ha => ?_⟩
  · exact (p b o e fun q => ok.Lof (q ▸ hb)).2
  · by_cases q : a = f.L
    · subst q; obtain ⟨o, _, _, e, _⟩ := F.ns; exact ⟨o, e⟩
    · obtain ⟨o, e⟩ := s.old a ha
      obtain ⟨sl, e'⟩ := (p a o e q).2
      exact ⟨_, e'⟩
/-! a name is stored -/
theorem store_ok {f : Fx} {hid : List Addr} {m : Str → Option Value} {σ : Sg} {s : Shared} {x : Str} {d : V} {v : Value} {E : Value → Shared → Prop} {Q : Unit → Shared → Prop} (ok : FxOk cx f hid k) (st : St cx f hid s.heap m σ) (r : Rep cx.LC hid s.heap d v)
    (hx : f.sc.names.lookup x = some .local) (K : ∀ m' s', St cx f hid s'.heap m' (upd σ x d) → Pres f s.heap s'.heap → Same s s' → Q () s') : wpAny (model cx.prog cx.w) f.A (storeName f.env x v) Q E s := by
  refine wpAny_storeName_local (env := f.env) hx st.fr.ns (fun h' hn hs => ?_) (by show (f.sc.kind == .class || (f.sc.kind == .module && _)) = false; rw [ok.hk]; rfl)
  have p : Pres f s.heap h' := Pres.of_keep fun b o e n => (hs.2 b n).trans e
  refine K _ { s with heap := h', toks := s.toks + 1 } (st.move ok p (st.fr.set hn hs) fun y d' e => ?_) p ⟨rfl, rfl, rfl⟩
  by_cases q : y = x
  · subst q
    rw [upd_same] at e
    obtain rfl := Option.some.inj e
    exact ⟨v, if_pos rfl, r.next ok p⟩
  · rw [upd_ne q] at e
    obtain ⟨v', e1, e2⟩ := st.env y d' e
    exact ⟨v', (if_neg q).trans e1, e2.next ok p⟩

noncomputable def XE.assign (x : Str) (a : SE) : XE := fun σ P => a σ (fun d => P.next (upd σ x d)) P.exc
theorem Ss.assign {x np e pos a} (ha : Ev cx k sc e a) (hx : sc.names.lookup x = some .local) (hs : ∀ env l, swapsWith e (some (.Name x np)) l env = pure false) : Ss cx k sc (.Assign [.Name x np] e pos) (XE.assign x a) := fun f hid m σ s P hf ok st h => by
  subst hf
  exact wpAny_Assign_Name (ha.go rfl ok st h (.refl _ _) (.refl _) fun v d s₁ hd r st₁ _ p₁ z₁ =>
    store_ok ok st₁ r hx fun m' s₂ st₂ p₂ z₂ => ⟨p₁.trans p₂, z₁.trans z₂, m', _, st₂, hd⟩) (hs _ _)

noncomputable def inP : Operator → V → V → (V → Prop) → Prop
  | .Add, .d (.int a), .d (.int b), Q => Q (I (a + b))
  | .Add, .d (.str a), .d (.str b), Q => a.length + b.length ≤ 1000 ∧ Q (S (a ++ b))
  | .Sub, .d (.int a), .d (.int b), Q => Q (I (a - b))
  | .Mult, .d (.int a), .d (.int b), Q => mulOk a b ∧ Q (I (a * b))
  | .FloorDiv, .d (.int a), .d (.int b), Q => b ≠ 0 ∧ Q (I (a.fdiv b))
  | _, _, _, _ => False
theorem in_ok {f : Fx} {hid : List Addr} {m : Str → Option Value} {σ : Sg} {s : Shared} {Q : V → Prop} {X : Prop} {op : Operator} {x y : V} {v w : Value} (ok : FxOk cx f hid k) (st : St cx f hid s.heap m σ)
    (rx : Rep cx.LC hid s.heap x v) (ry : Rep cx.LC hid s.heap y w) (h : inP op x y Q) : wpAny (model cx.prog cx.w) f.A (inplaceOp op v w) (EvQ cx f hid m s Q) (EvE cx f s X) s := by
  unfold inP at h
  split at h
  · obtain ⟨t, rfl⟩ := int_rep rx; obtain ⟨u, rfl⟩ := int_rep ry
    exact iadd_int (evq st h (rep_int _ _) _)
  · obtain ⟨t, rfl⟩ := str_rep rx; obtain ⟨u, rfl⟩ := str_rep ry
    exact PyProof.Rows.iadd_str (fun t' tk => evq st h.2 (rep_str _ _) _) (Nat.le_trans h.1 (by rw [sizeLine_eq]; decide))
  · obtain ⟨t, rfl⟩ := int_rep rx; obtain ⟨u, rfl⟩ := int_rep ry
    exact isub_int (evq st h (rep_int _ _) _)
  · obtain ⟨t, rfl⟩ := int_rep rx; obtain ⟨u, rfl⟩ := int_rep ry
    exact imul_int (evq st h.2 (rep_int _ _) _) h.1.ok
  · obtain ⟨t, rfl⟩ := int_rep rx; obtain ⟨u, rfl⟩ := int_rep ry
    exact ifloordiv_int h.1 (evq st h.2 (rep_int _ _) _) (.inr (pylong ok st.fr))
  · exact h.elim
noncomputable def XE.aug (x : Str) (op : Operator) (a : SE) : XE := fun σ P => ∃ d, σ x = some d ∧ a σ (fun y => inP op d y fun z => P.next (upd σ x z)) P.exc
theorem Ss.aug {x np op e pos a} (ha : Ev cx k sc e a) (hx : sc.names.lookup x = some .local) : Ss cx k sc (.AugAssign (.Name x np) op e pos) (XE.aug x op a) := fun f hid m σ s P hf ok st h => by
  subst hf
  obtain ⟨d, h1, h2⟩ := h
  obtain ⟨v, hv, r⟩ := st.env x d h1
  refine wpAny_AugAssign_Name (wpAny_loadName_local (env := f.env) ok.hk hx st.fr.ns hv (ha.go rfl ok st h2 (.refl _ _) (.refl _) fun w y s₁ hy ry st₁ q₁ p₁ z₁ =>
    prim ok st₁ p₁ z₁ (in_ok ok st₁ (r.next ok q₁) ry hy) fun _ _ s₂ h1 h2 h3 h4 h5 h6 => store_ok ok h3 h2 hx fun m' s₃ st₃ p₃ z₃ => ⟨h5.trans p₃, h6.trans z₃, m', _, st₃, h1⟩))

noncomputable def XE.ret (a : SE) : XE := fun σ P => a σ P.ret P.exc
theorem Ss.ret {e pos a} (ha : Ev cx k sc e a) : Ss cx k sc (.Return (some e) pos) (XE.ret a) := fun f hid m σ s P hf ok st h =>
  wpAny_Return_some (ha.go hf ok st h (.refl _ _) (.refl _) fun v d s₁ hd r st₁ _ p₁ z₁ => ⟨p₁, z₁, d, m, σ, st₁, r, hd⟩)
noncomputable def XE.ite (t : TE) (a b : XE) : XE := fun σ P => t σ (fun c => (c = true → a σ P) ∧ (c = false → b σ P)) P.exc
theorem Ss.ite {t b o pos T a c} (ht : Ts cx k sc t T) (ha : SL cx k sc b a) (hc : SL cx k sc o c) : Ss cx k sc (.If t b o pos) (XE.ite T a c) := fun f hid m σ s P hf ok st h =>
  wpAny_If (ht.then hf ok st h (.refl _ _) (.refl _) fun t s₁ ht st₁ _ p₁ z₁ => by
    cases t with
    | true => exact ha.go hf ok st₁ (ht.1 rfl) p₁ z₁
    | false => exact hc.go hf ok st₁ (ht.2 rfl) p₁ z₁)

/-! unpacking -/
noncomputable def bindT : List Str → List PyData → Sg → (Sg → Prop) → Prop
  | [], [], σ, K => K σ
  | x :: xs, d :: ds, σ, K => bindT xs ds (upd σ x (.d d)) K
  | _, _, _, _ => False
theorem bindT_len : ∀ {xs : List Str} {ds : List PyData} {σ : Sg} {K : Sg → Prop}, bindT xs ds σ K → xs.length = ds.length
  | [], [], _, _, _ => rfl
  | _ :: _, _ :: _, _, _, h => congrArg (· + 1) (bindT_len (K := _) h)
theorem stores_ok {f : Fx} {hid : List Addr} {E : Value → Shared → Prop} {Q : Unit → Shared → Prop} (ok : FxOk cx f hid k) (xs : List (Str × Pos)) : ∀ (ds : List PyData) (vs : List Value) (as : List Addr) (m : Str → Option Value) (σ : Sg) (s : Shared) (K : Sg → Prop),
    St cx f hid s.heap m σ → ReadsAll (hideAll s.heap hid) vs ds as → (∀ x ∈ xs, f.sc.names.lookup x.1 = some .local) → bindT (xs.map (·.1)) ds σ K →
    (∀ m' s' σ', St cx f hid s'.heap m' σ' → Pres f s.heap s'.heap → Same s s' → K σ' → Q () s') → wpAny (model cx.prog cx.w) f.A (assignInOrder (xs.map fun x => assign (.Name x.1 x.2) f.env) vs) Q E s := by
  induction xs with
  | nil =>
    intro ds vs as m σ s K st r hx h k
    cases ds with
    | nil => cases r; exact wpAny_pure (k m s σ st (.refl _ _) (.refl _) h)
    | cons d ds => exact h.elim
  | cons x xs ih =>
    intro ds vs as m σ s K st r hx h k
    cases ds with
    | nil => exact h.elim
    | cons d ds =>
      cases r with
      | cons r rs =>
        rename_i v vs as bs
        show wpAny _ _ (do holding vs (assign (.Name x.1 x.2) f.env v); assignInOrder (xs.map fun x => assign (.Name x.1 x.2) f.env) vs) _ _ _
        refine wpAny_bind (wpAny_holding (assign_Name (store_ok ok st (d := .d d) ⟨_, r⟩ (hx _ (.head _)) fun m' s' st' p z => ?_)))
        exact ih ds vs _ m' _ s' K st' (ReadsAll.keeps (vis ok p) rs) (fun y hy => hx y (.tail _ hy)) h fun m'' s'' σ'' a b c e => k m'' s'' σ'' a (p.trans b) (z.trans c) e
noncomputable def elts (xs : List (Str × Pos)) : List Expr := xs.map fun x => .Name x.1 x.2
theorem assignEach_names (env : Env) : ∀ xs : List (Str × Pos), (assignEach (elts xs) env) = xs.map fun x => (false, assign (.Name x.1 x.2) env)
  | [] => rfl
  | x :: xs => by
    show (false, assign (.Name x.1 x.2) env) :: assignEach (elts xs) env = _
    rw [assignEach_names env xs]; rfl
noncomputable def unP (xs : List Str) : V → Sg → (Sg → Prop) → Prop
  | .d (.tuple ds), σ, K => bindT xs ds σ K
  | _, _, _ => False
theorem unpack_ok {f : Fx} {hid : List Addr} {m : Str → Option Value} {σ : Sg} {s : Shared} {xs : List (Str × Pos)} {d : V} {v : Value} {E : Value → Shared → Prop} {Q : Unit → Shared → Prop} {n : Nat} {pos : Pos} {K : Sg → Prop} (ok : FxOk cx f hid k) (st : St cx f hid s.heap m σ) (r : Rep cx.LC hid s.heap d v)
    (hx : ∀ x ∈ xs, f.sc.names.lookup x.1 = some .local) (h : unP (xs.map (·.1)) d σ K) (kk : ∀ m' s' σ', St cx f hid s'.heap m' σ' → Pres f s.heap s'.heap → Same s s' → K σ' → Q () s') :
    wpAny (model cx.prog cx.w) f.A (assign (.Tuple (elts xs) n pos) f.env v) Q E s := by
  unfold unP at h
  split at h
  · obtain ⟨as, r⟩ := r
    cases r with
    | tuple e1 e2 e3 e4 =>
      show wpAny _ _ (do standAt pos; unpack _ (assignEach (elts xs) f.env)) _ _ _
      refine wpAny_bind (wpAny_standAt ?_)
      unfold unpack
      rw [assignEach_names]
      have hn := bindT_len h
      have hl := readsAll_len e4
      rw [Array.length_toList] at hl
      rw [List.length_map] at hn
      have hfi : List.findIdx? (fun x : Bool × (Value → Sem Unit) => x.1) (xs.map fun x => (false, assign (.Name x.1 x.2) f.env)) = none := by
        rw [List.findIdx?_eq_none_iff]; intro x hx; obtain ⟨y, _, rfl⟩ := List.mem_map.mp hx; rfl
      rw [hfi, List.length_map]

      have hsz : xs.length = _ := hn.trans hl.symm
      rw [hsz]
      refine wpAny_bind (wpAny_holding (unpackItems_tuple ok.hh ⟨_, of_hideAll _ e1, e2, _, e3⟩ fun h' he => ?_))
      have kp : ∀ b o, s.heap.get? b = some o → h'.get? b = some o := fun b o e => he b o (Nat.ne_of_lt (Heap.lt_size e)) e
      have p := Pres.of_keeps (f := f) kp
      have e : ((xs.map fun x => (false, assign (.Name x.1 x.2) f.env)).map (·.2)) = xs.map fun x => assign (.Name x.1 x.2) f.env := by rw [List.map_map]; rfl
      rw [e]
      exact stores_ok ok xs _ _ _ m σ { s with heap := h' } K (st.next ok p (st.fr.grownK kp) rfl) (ReadsAll.keeps (vis ok p) e4) hx h fun m' s' σ' a b c e => kk m' s' σ' a (p.trans b) ⟨c.1, c.2, c.3⟩ e
  · exact h.elim
noncomputable def XE.unpack (xs : List Str) (a : SE) : XE := fun σ P => a σ (fun d => unP xs d σ P.next) P.exc
theorem Ss.unpack {xs : List (Str × Pos)} {n tpos e pos a} (ha : Ev cx k sc e a) (hx : ∀ x ∈ xs, sc.names.lookup x.1 = some .local)
    (hs : ∀ env l, swapsWithSole [.Tuple (elts xs) n tpos] e l env = pure false) (hw : ∀ env, swappedStores [.Tuple (elts xs) n tpos] e env = pure none) : Ss cx k sc (.Assign [.Tuple (elts xs) n tpos] e pos) (XE.unpack (xs.map (·.1)) a) := fun f hid m σ s P hf ok st h => by
  subst hf
  exact Assign_Tuple (ha.go rfl ok st h (.refl _ _) (.refl _) fun v d s₁ hd r st₁ _ p₁ z₁ =>
    unpack_ok ok st₁ r hx hd fun m' s₂ σ' st₂ p₂ z₂ q => ⟨p₁.trans p₂, z₁.trans z₂, m', σ', st₂, q⟩) (hs _ _) (hw _)
end

-- the part M8
section
variable {cx : Cx} {k : Nat} {sc : Scope}

theorem Ss.unpack2 {x px y py n tpos e pos a} (ha : Ev cx k sc e a) (hx : sc.names.lookup x = some .local) (hy : sc.names.lookup y = some .local)
    (hs : ∀ env l, swapsWithSole [.Tuple [.Name x px, .Name y py] n tpos] e l env = pure false) (hw : ∀ env, swappedStores [.Tuple [.Name x px, .Name y py] n tpos] e env = pure none) :
    Ss cx k sc (.Assign [.Tuple [.Name x px, .Name y py] n tpos] e pos) (XE.unpack [x, y] a) :=
  Ss.unpack (xs := [(x, px), (y, py)]) ha (fun z hz => by rcases List.mem_cons.mp hz with rfl | hz; exact hx; rw [List.mem_singleton.mp hz]; exact hy) hs hw

/-! an exception that passes a loop of the frame's own -/
theorem loop_exc {f : Fx} {hid : List Addr} {m : Str → Option Value} {σ : Sg} {s : Shared} {X : Prop} {A : Around} (hA : A.frames = f.A.frames) (ok : FxOk cx f hid k) (st : St cx f hid s.heap m σ) {e : Value} {s' : Shared} (x : EvE cx f s X e s') :
    notedBy (model cx.prog cx.w) A f.env (cameBackBy (model cx.prog cx.w) A f.env (EvE cx f s X)) e s' := by
  obtain ⟨hX, a, rfl, i, z⟩ := x
  unfold notedBy
  refine note_ok ok st i hA fun h' t => ?_
  unfold cameBackBy
  have t' := t
  obtain ⟨_, _, _, oe, vs, a0, T, oT, ts, y1, y2, y3, y4, z1, _⟩ := t'
  refine wpAny_bind (wpAny_field (s := { s' with heap := h' }) y1 y3 z1 ?_)
  rw [if_neg (by simp)]
  refine setFlight_ok (s := { s' with heap := h' }) ok st t fun h'' t'' => ?_
  exact ⟨hX, a, rfl, t''.fl (.inr rfl), ⟨z.1, z.2, z.3⟩⟩

noncomputable def XE.while (t : TE) (b : XE) : XE := fun σ P => ∃ (Inv : Sg → Prop) (μ : Sg → Nat), Inv σ ∧ ∀ σ', Inv σ' →
  t σ' (fun c => (c = true → b σ' ⟨fun τ => Inv τ ∧ μ τ < μ σ', P.ret, P.next, fun τ => Inv τ ∧ μ τ < μ σ', P.exc⟩) ∧ (c = false → P.next σ')) P.exc
theorem Ss.while {t b pos T B} (ht : Ts cx k sc t T) (hb : SL cx k sc b B) : Ss cx k sc (.While t b [] pos) (XE.while T B) := fun f hid m σ s P hf ok st h => by
  obtain ⟨Inv, μ, h0, hs⟩ := h
  refine wpAny_While (codeAny_whileLoop (fun n s' => ∃ m' σ', St cx f hid s'.heap m' σ' ∧ Inv σ' ∧ μ σ' = n ∧ Pres f s.heap s'.heap ∧ Same s s') (fun n s' ⟨m', σ', st', hi, hm, p, z⟩ => ?_) (μ σ) ⟨m, σ, st, h0, rfl, .refl _ _, .refl _⟩)
  refine wpAny_mono (ht.then hf ok st' (hs σ' hi) p z (P := fun c s₂ => if c = true then _ else _) fun c s₂ hc st₂ q p₂ z₂ => ?_) (fun _ _ x => x) fun _ _ x => loop_exc rfl ok st x
  cases c with
  | false =>
    rw [if_neg Bool.false_ne_true]
    exact wpAny_execs_nil ⟨p₂, z₂, m', σ', st₂, hc.2 rfl⟩
  | true =>
    rw [if_pos rfl]
    refine wpAny_mono (hb.go hf ok st₂ (hc.1 rfl) p₂ z₂) (fun fl s₃ ⟨p₃, z₃, q₃⟩ => ?_) fun _ _ x => loop_exc rfl ok st x
    cases fl with
    | next => obtain ⟨m₃, σ₃, a, b, c⟩ := q₃; exact ⟨_, hm ▸ c, m₃, σ₃, a, b, rfl, p₃, z₃⟩
    | cont => obtain ⟨m₃, σ₃, a, b, c⟩ := q₃; exact ⟨_, hm ▸ c, m₃, σ₃, a, b, rfl, p₃, z₃⟩
    | brk => exact ⟨p₃, z₃, q₃⟩
    | ret v => exact ⟨p₃, z₃, q₃⟩

/-! ## for -/
noncomputable abbrev BindE := V → Sg → (Sg → Prop) → Prop
noncomputable def As (cx : Cx) (k : Nat) (sc : Scope) (t : Expr) (T : BindE) : Prop :=
  ∀ (f : Fx) (hid : List Addr) (m : Str → Option Value) (σ : Sg) (s : Shared) (d : V) (v : Value) (K : Sg → Prop) (Q : Unit → Shared → Prop) (E : Value → Shared → Prop), f.sc = sc → FxOk cx f hid k → St cx f hid s.heap m σ → Rep cx.LC hid s.heap d v → T d σ K →
    (∀ m' s' σ', St cx f hid s'.heap m' σ' → Pres f s.heap s'.heap → Same s s' → K σ' → Q () s') → wpAny (model cx.prog cx.w) f.A (assign t f.env v) Q E s
theorem As.name {x px} (hx : sc.names.lookup x = some .local) : As cx k sc (.Name x px) (fun d σ K => K (upd σ x d)) := fun f hid m σ s d v K Q E hf ok st r h kk => by
  subst hf
  exact assign_Name (store_ok ok st r hx fun m' s' st' p z => kk m' s' _ st' p z h)
theorem As.tup {xs : List (Str × Pos)} {n pos} (hx : ∀ x ∈ xs, sc.names.lookup x.1 = some .local) : As cx k sc (.Tuple (elts xs) n pos) (fun d σ K => unP (xs.map (·.1)) d σ K) := fun f hid m σ s d v K Q E hf ok st r h kk => by
  subst hf
  exact unpack_ok ok st r hx h kk
theorem As.tup2 {x px y py n pos} (hx : sc.names.lookup x = some .local) (hy : sc.names.lookup y = some .local) : As cx k sc (.Tuple [.Name x px, .Name y py] n pos) (fun d σ K => unP [x, y] d σ K) :=
  As.tup (xs := [(x, px), (y, py)]) (fun z hz => by rcases List.mem_cons.mp hz with rfl | hz; exact hx; rw [List.mem_singleton.mp hz]; exact hy)
theorem As.tup4 {x px y py u pu w pw n pos} (hx : sc.names.lookup x = some .local) (hy : sc.names.lookup y = some .local) (hu : sc.names.lookup u = some .local) (hw : sc.names.lookup w = some .local) :
    As cx k sc (.Tuple [.Name x px, .Name y py, .Name u pu, .Name w pw] n pos) (fun d σ K => unP [x, y, u, w] d σ K) :=
  As.tup (xs := [(x, px), (y, py), (u, pu), (w, pw)]) (fun z hz => by
    rcases List.mem_cons.mp hz with rfl | hz
    · exact hx
    rcases List.mem_cons.mp hz with rfl | hz
    · exact hy
    rcases List.mem_cons.mp hz with rfl | hz
    · exact hu
    rw [List.mem_singleton.mp hz]; exact hw)

noncomputable def forP (bind : BindE) (b : XE) : List V → Sg → Post → Prop
  | [], σ, P => P.next σ
  | d :: r, σ, P => bind d σ fun τ => b τ ⟨fun τ' => forP bind b r τ' P, P.ret, P.next, fun τ' => forP bind b r τ' P, P.exc⟩

theorem St.hide {f : Fx} {hid : List Addr} {h : Heap} {m : Str → Option Value} {σ : Sg} {i : Addr} (st : St cx f hid h m σ) {o : Obj} {h' : Heap} (hi : h.get? i = none) (hi' : h'.get? i = some o) (kp : ∀ b o, h.get? b = some o → h'.get? b = some o) : St cx f (i :: hid) h' m σ := by
  have v : ∀ b o, (hideAll h hid).get? b = some o → (hideAll h' (i :: hid)).get? b = some o := hideAll_mono (fun b o e _ => kp b o e) fun b o e hb hm => by
    rcases List.mem_cons.mp hm with rfl | hm
    · rw [hi] at e; cases e
    · exact hb hm
  refine ⟨st.fr.grownK kp, fun x d e => ?_, funFrames_pres (fun b _ o e => ⟨o.slots, kp b o e⟩) st.frames, fun a ha => ?_⟩
  · obtain ⟨w, h1, h2⟩ := st.env x d e
    exact ⟨w, h1, h2.mono v⟩
  · rcases List.mem_cons.mp ha with rfl | ha
    · exact ⟨o, hi'⟩
    · obtain ⟨o, e⟩ := st.old a ha; exact ⟨o, kp a o e⟩
theorem Rep.unhide {LC : RC} {hid : List Addr} {h : Heap} {i : Addr} {d : V} {v : Value} (r : Rep LC (i :: hid) h d v) : Rep LC hid h d v :=
  r.mono (hideAll_mono (fun _ _ e _ => e) fun b o _ hb hm => hb (.tail _ hm))
theorem St.unhide {f : Fx} {hid : List Addr} {h : Heap} {m : Str → Option Value} {σ : Sg} {i : Addr} (st : St cx f (i :: hid) h m σ) : St cx f hid h m σ :=
  ⟨st.fr, fun x d e => let ⟨v, h1, h2⟩ := st.env x d e; ⟨v, h1, h2.unhide⟩, st.frames, fun a ha => st.old a (.tail _ ha)⟩
theorem FxOk.hide {f : Fx} {hid : List Addr} {i : Addr} (ok : FxOk cx f hid k) (h : cx.H₀.get? i = none) : FxOk cx f (i :: hid) k :=
  ⟨ok.hA, ok.hh, ok.hk, ok.hgen, ok.hco, .tail _ ok.Lhid, fun a ha => .tail _ (ok.ohid a ha), ok.Lof, fun a ha => (List.mem_cons.mp ha).elim (fun q => q ▸ h) (ok.h0 a), ok.depth, ok.units⟩
theorem not_frame {f : Fx} {hid : List Addr} {h : Heap} {m : Str → Option Value} {σ : Sg} {i : Addr} (ok : FxOk cx f hid k) (st : St cx f hid h m σ) (hi : h.get? i = none) : i ≠ f.L ∧ i ∉ f.of := by
  constructor
  · intro q; subst q; obtain ⟨o, _, _, e, _⟩ := st.fr.ns; rw [hi] at e; cases e
  · intro q; obtain ⟨o, e⟩ := st.old i (ok.ohid i q); rw [hi] at e; cases e

/-- the walk over an iterator I that stands since a moment: at s₀ it was not there, at s it is -/
theorem for_walk {tg : Expr} {b : List Stmt} {bind : BindE} {B : XE} (hbind : As cx k sc tg bind) (hb : SL cx k sc b B) {f : Fx} {hid : List Addr} {m : Str → Option Value} {σ : Sg} {s₀ s : Shared} {P : Post} (hf : f.sc = sc) (ok : FxOk cx f hid k)
    {I : Addr} {fp : List Addr} {n : Nat} {IP : Nat → Value → Prop} {It : Nat → Heap → Prop} {oI : Obj} (W : Walks cx.prog cx.w f.A I fp [I] n IP It)
    (st : St cx f hid s₀.heap m σ) (hI : s₀.heap.get? I = none) (hI' : s.heap.get? I = some oI) (kp : ∀ b o, s₀.heap.get? b = some o → s.heap.get? b = some o) (z₀ : Same s₀ s)
    (hfp : ∀ b ∈ fp, b = I ∨ ∃ o, (hideAll s₀.heap hid).get? b = some o) (h0 : It 0 s.heap) (items : List V) (hn : items.length = n)
    (hitem : ∀ i v h d, IP i v → (∀ b o, (hideAll s₀.heap hid).get? b = some o → (hideAll h (I :: hid)).get? b = some o) → items[i]? = some d → Rep cx.LC (I :: hid) h d v)
    (hex : ∀ i h, It i h → ∃ o, h.get? I = some o)
    (hgo : ∀ i v s', i < n → IP i v → It (i + 1) s'.heap → ∀ (Q : Unit → Shared → Prop) (E : Value → Shared → Prop), Q () s' → wpAny (model cx.prog cx.w) f.A (letOwnedTupleGo tg (.ref I) v) Q E s')
    (h : forP bind B items σ P) :
    codeAny (model cx.prog cx.w) f.A (.forLoop tg (.ref I) b [] f.env) (fun r s' => match r with | .ok fl => FlQ cx f hid s₀ P fl s' | .error e => cameBackBy (model cx.prog cx.w) f.A f.env (EvE cx f s₀ P.exc) e s') s := by
  have st₀ : St cx f (I :: hid) s.heap m σ := st.hide hI hI' kp
  have hI0 : cx.H₀.get? I = none := by
    cases q : cx.H₀.get? I with
    | none => rfl
    | some o => rw [st.fr.keep I o q] at hI; cases hI
  have ok' := ok.hide hI0
  obtain ⟨nL, nO⟩ := not_frame ok st hI
  have p₀ : Pres f s₀.heap s.heap := Pres.of_keeps kp
  -- what a step of the loop's may change: the iterator
  have stepI : ∀ {h h' : Heap}, (∀ b o, b ∉ [I] → h.get? b = some o → h'.get? b = some o) → Pres f s₀.heap h → Pres f s₀.heap h' := fun {h h'} q p b o e ne => by
    have hb : b ∉ [I] := fun hm => by rw [List.mem_singleton.mp hm, hI] at e; cases e
    have p' := p b o e ne
    obtain ⟨sl, e'⟩ := p'.2
    exact ⟨fun hm => q b o hb (p'.1 hm), sl, q b _ hb e'⟩
  have moveI : ∀ {h h' : Heap} {m' : Str → Option Value} {τ : Sg} {l : List Addr}, (∀ a ∈ l, a = I ∨ a ∈ hid) → (I ∈ l → ∃ o, h'.get? I = some o) → (∀ b o, b ∉ [I] → h.get? b = some o → h'.get? b = some o) → St cx f (I :: hid) h m' τ → St cx f l h' m' τ := fun {h h' m' τ l} hl hi q t => by
    have v : ∀ b o, (hideAll h (I :: hid)).get? b = some o → (hideAll h' l).get? b = some o := hideAll_mono (fun b o e hb => q b o (fun hm => hb (List.mem_singleton.mp hm ▸ .head _)) e) fun b _ _ hb hm => hb ((hl b hm).elim (fun q => q ▸ .head _) fun q => .tail _ q)
    have nb : ∀ b o, b ≠ I → h.get? b = some o → h'.get? b = some o := fun b o ne e => q b o (fun hm => ne (List.mem_singleton.mp hm)) e
    refine ⟨⟨t.fr.ns.at' fun o e => nb _ o (Ne.symm nL) e, fun b o e => nb b o (fun hq => by rw [hq, hI0] at e; cases e) (t.fr.keep b o e), t.fr.above⟩, fun x d e => ?_, funFrames_pres (fun b hb o e => ⟨o.slots, nb b o (fun hq => nO (hq ▸ hb)) e⟩) t.frames, fun a ha => ?_⟩
    · obtain ⟨w, h1, h2⟩ := t.env x d e
      exact ⟨w, h1, h2.mono v⟩
    · by_cases hq : a = I
      · subst hq; exact hi ha
      · obtain ⟨o, e⟩ := t.old a ((hl a ha).elim (fun q => absurd q hq) fun q => .tail _ q); exact ⟨o, nb a o hq e⟩
  have fpk : ∀ {h h' : Heap}, Pres f h h' → Pres f s₀.heap h → ∀ b ∈ fp, ∀ o, h.get? b = some o → h'.get? b = some o := fun {h h'} p pp b hb o e => by
    rcases hfp b hb with rfl | ⟨o', e'⟩
    · exact (p _ o e nL).1 nO
    · have hh : b ∉ hid := fun hm => by rw [hideAll_none _ hm] at e'; cases e'
      exact (p b o e fun q => hh (q ▸ ok.Lhid)).1 fun q => hh (ok.ohid b q)
  refine codeAny_forLoop_any (fun j s' => ∃ i m' σ', i ≤ n ∧ j = n - i ∧ It i s'.heap ∧ St cx f (I :: hid) s'.heap m' σ' ∧ forP bind B (items.drop i) σ' P ∧ Pres f s₀.heap s'.heap ∧ Same s₀ s') ?_ n
    ⟨0, m, σ, Nat.zero_le _, rfl, h0, st₀, by rw [List.drop_zero]; exact h, p₀, z₀⟩
  rintro j s' ⟨i, m', σ', hi, rfl, hIt, st', hfp', p', z'⟩
  by_cases hlt : i < n
  · refine W.item i s' _ _ hlt hIt fun v h₁ tk hP hIt₁ hk => ?_
    have st₁ : St cx f (I :: hid) h₁ m' σ' := moveI (fun a ha => List.mem_cons.mp ha) (fun _ => hex _ _ hIt₁) hk st'
    have p₁ : Pres f s₀.heap h₁ := stepI hk p'
    refine hgo i v { s' with heap := h₁, toks := tk } hlt hP hIt₁ _ _ ?_
    have hlt' : i < items.length := hn ▸ hlt
    rw [List.drop_eq_getElem_cons hlt'] at hfp'
    have hv : Rep cx.LC (I :: hid) h₁ items[i] v := by
      refine hitem i v h₁ _ hP ?_ (List.getElem?_eq_getElem hlt')
      refine hideAll_mono (fun b o e hb => (p₁ b o e fun q => hb (q ▸ ok.Lhid)).1 fun q => hb (ok.ohid b q)) fun b o e hb hm => ?_
      rcases List.mem_cons.mp hm with rfl | hm
      · rw [hI] at e; cases e
      · exact hb hm
    refine hbind f (I :: hid) m' σ' { s' with heap := h₁, toks := tk } _ v _ _ _ hf ok' st₁ hv hfp' fun m₂ s₂ σ₂ st₂ p₂ z₂ k₂ => ?_
    have z₂' : Same s₀ s₂ := z'.trans ⟨z₂.1, z₂.2, z₂.3⟩
    refine wpAny_mono (hb f (I :: hid) m₂ σ₂ s₂ _ hf ok' st₂ k₂) (fun fl s₃ ⟨p₃, z₃, q₃⟩ => ?_) fun _ _ x => loop_exc rfl ok st (x.back st₂.fr (p₁.trans p₂) z₂' id)
    have P₃ := (p₁.trans p₂).trans p₃
    have Z₃ := z₂'.trans z₃
    cases fl with
    | next =>
      obtain ⟨m₃, σ₃, a, b⟩ := q₃
      exact ⟨n - (i + 1), by omega, i + 1, m₃, σ₃, hlt, rfl, W.frame _ _ _ hIt₁ (fpk (p₂.trans p₃) p₁), a, b, P₃, Z₃⟩
    | cont =>
      obtain ⟨m₃, σ₃, a, b⟩ := q₃
      exact ⟨n - (i + 1), by omega, i + 1, m₃, σ₃, hlt, rfl, W.frame _ _ _ hIt₁ (fpk (p₂.trans p₃) p₁), a, b, P₃, Z₃⟩
    | brk =>
      obtain ⟨m₃, σ₃, a, b⟩ := q₃
      exact ⟨P₃, Z₃, m₃, σ₃, a.unhide, b⟩
    | ret v =>
      obtain ⟨d, m₃, σ₃, a, b, c⟩ := q₃
      exact ⟨P₃, Z₃, d, m₃, σ₃, a.unhide, b.unhide, c⟩
  · have hin : i = n := by omega
    subst hin
    refine W.done s' _ _ hIt fun h₁ tk hk => ?_
    have st₁ : St cx f hid h₁ m' σ' := moveI (fun a ha => .inr ha) (fun hm => by obtain ⟨o, e⟩ := st.old I hm; rw [hI] at e; cases e) hk st'
    rw [List.drop_eq_nil_of_le (by omega)] at hfp'
    exact wpAny_execs_nil ⟨stepI hk p', z'.trans ⟨rfl, rfl, rfl⟩, m', σ', st₁, hfp'⟩
end

-- the part M9
noncomputable def upto (n : Nat) : List V := (List.range n).map fun (i : Nat) => I (i : Int)
noncomputable def itemsP : V → (List V → Prop) → Prop
  | .d (.list xs), Q => Q (xs.map V.d)
  | .d (.tuple xs), Q => Q (xs.map V.d)
  | .rng n, Q => (0 ≤ n ∧ n ≤ 1000000) ∧ Q (upto n.toNat)
  | .rows kvs, Q => Q (kvs.map fun p => S p.1)
  | _, _ => False
noncomputable def itemsL : V → (List V → Prop) → Prop
  | .d (.list xs), Q => Q (xs.map V.d)
  | _, _ => False

section
variable {cx : Cx} {k : Nat} {sc : Scope}

theorem range_size {n : Int} (h : 0 ≤ n) : Builtin.Range.rangeSize 0 n 1 = (n.toNat : Int) := by
  unfold Builtin.Range.rangeSize
  rw [if_pos (by decide)]
  split
  · rw [Int.ediv_one]; omega
  · omega
theorem range_small {n : Int} (h : 0 ≤ n) (h' : n ≤ 1000000) : Builtin.Range.small 0 n 1 = true := by
  unfold Builtin.Range.small
  rw [range_size h]
  have f : ∀ x : Int, -10 ≤ x → x ≤ 2000000 → Builtin.Range.rangeFitsLong x = true := fun x h1 h2 => by
    unfold Builtin.Range.rangeFitsLong
    simp
    omega
  rw [f 0 (by omega) (by omega), f n (by omega) (by omega), f 1 (by omega) (by omega), f _ (by omega) (by omega)]
  simp only [Bool.and_true, Bool.true_and, Bool.or_eq_true]
  right
  rw [if_pos (by decide)]
  exact f _ (by omega) (by omega)

theorem iter_list {tg : Expr} {b : List Stmt} {bind : BindE} {B : XE} (hbind : As cx k sc tg bind) (hb : SL cx k sc b B) {f : Fx} {hid : List Addr} {m : Str → Option Value} {σ : Sg} {s : Shared} {P : Post} {E : Value → Shared → Prop} (hf : f.sc = sc) (ok : FxOk cx f hid k)
    (st : St cx f hid s.heap m σ) {xs : List PyData} {v : Value} (r : Rep cx.LC hid s.heap (.d (.list xs)) v)
    (hgo : ∀ I l i v (s' : Shared), s'.heap.IsListIter I l i → ∀ (Q : Unit → Shared → Prop) (E : Value → Shared → Prop), Q () s' → wpAny (model cx.prog cx.w) f.A (letOwnedTupleGo tg (.ref I) v) Q E s')
    (h : forP bind B (xs.map V.d) σ P) :
    wpAny (model cx.prog cx.w) f.A (pyIter v) (fun it s₂ => codeAny (model cx.prog cx.w) f.A (.forLoop tg it b [] f.env) (fun r s' => match r with | .ok fl => FlQ cx f hid s P fl s' | .error e => cameBackBy (model cx.prog cx.w) f.A f.env (EvE cx f s P.exc) e s') s₂) E s := by
  obtain ⟨as, r⟩ := r
  cases r with
  | list e1 e2 e3 e4 =>
    rename_i a o vs n as
    have hL : s.heap.IsList a vs := ⟨_, of_hideAll _ e1, e2, _, e3⟩
    have hlt := Heap.lt_size (of_hideAll _ e1)
    refine wpAny_pyIter_list hL ?_
    have kp : ∀ b o, s.heap.get? b = some o → (s.heap.push { cls := .type "list_iterator", data := .fields #[.ref a, .int 0 0] }).get? b = some o := fun b o e => Heap.get?_push_of_some _ e
    have hlen := readsAll_len e4
    rw [Array.length_toList] at hlen
    refine for_walk hbind hb hf ok (I := s.heap.objs.size) (Walks.list ok.hh s.heap.objs.size a (Nat.ne_of_lt hlt) vs) st (Heap.get?_none_of_le (Nat.le_refl _)) (Heap.get?_push_size _ rfl) kp ⟨rfl, rfl, rfl⟩ (fun b hm => ?_)
      ⟨⟨_, Heap.get?_push_size _ rfl, rfl, rfl⟩, hL.push _⟩ (xs.map V.d) (by rw [List.length_map, hlen]) (fun i v h d hv hk hd => ?_) (fun i h x => let ⟨o, ho, _⟩ := x.1; ⟨o, ho⟩) (fun i v s' _ _ x => hgo _ _ _ _ _ x.1) h
    · rcases List.mem_cons.mp hm with q | hm
      · exact .inl q
      · rw [List.mem_singleton.mp hm]; exact .inr ⟨_, e1⟩
    · rw [List.getElem?_map] at hd
      obtain ⟨x, hx, rfl⟩ := Option.map_eq_some_iff.mp hd
      obtain ⟨w, bs, g1, g2⟩ := readsAll_get e4 hx
      have : w = v := by rw [Array.getElem?_toList] at g1; rw [hv] at g1; exact (Option.some.inj g1).symm
      subst this
      exact ⟨bs, Reads.keeps hk g2⟩
theorem iter_tuple {tg : Expr} {b : List Stmt} {bind : BindE} {B : XE} (hbind : As cx k sc tg bind) (hb : SL cx k sc b B) {f : Fx} {hid : List Addr} {m : Str → Option Value} {σ : Sg} {s : Shared} {P : Post} {E : Value → Shared → Prop} (hf : f.sc = sc) (ok : FxOk cx f hid k)
    (st : St cx f hid s.heap m σ) {xs : List PyData} {v : Value} (r : Rep cx.LC hid s.heap (.d (.tuple xs)) v) (hgo : ∀ it v, letOwnedTupleGo tg it v = pure ()) (h : forP bind B (xs.map V.d) σ P) :
    wpAny (model cx.prog cx.w) f.A (pyIter v) (fun it s₂ => codeAny (model cx.prog cx.w) f.A (.forLoop tg it b [] f.env) (fun r s' => match r with | .ok fl => FlQ cx f hid s P fl s' | .error e => cameBackBy (model cx.prog cx.w) f.A f.env (EvE cx f s P.exc) e s') s₂) E s := by
  obtain ⟨as, r⟩ := r
  cases r with
  | tuple e1 e2 e3 e4 =>
    rename_i a o vs n
    have hL : s.heap.IsTuple a vs := ⟨_, of_hideAll _ e1, e2, _, e3⟩
    have hlt := Heap.lt_size (of_hideAll _ e1)
    refine wpAny_pyIter_tuple hL ?_
    have kp : ∀ b o, s.heap.get? b = some o → (s.heap.push { cls := .type "tuple_iterator", data := .fields #[.ref a, .int 0 0] }).get? b = some o := fun b o e => Heap.get?_push_of_some _ e
    have hlen := readsAll_len e4
    rw [Array.length_toList] at hlen
    refine for_walk hbind hb hf ok (I := s.heap.objs.size) (Walks.tuple ok.hh s.heap.objs.size a (Nat.ne_of_lt hlt) vs) st (Heap.get?_none_of_le (Nat.le_refl _)) (Heap.get?_push_size _ rfl) kp ⟨rfl, rfl, rfl⟩ (fun b hm => ?_)
      ⟨⟨_, Heap.get?_push_size _ rfl, rfl, rfl⟩, let ⟨o, ho, x⟩ := hL; ⟨o, kp _ _ ho, x⟩⟩ (xs.map V.d) (by rw [List.length_map, hlen]) (fun i v h d hv hk hd => ?_) (fun i h x => let ⟨o, ho, _⟩ := x.1; ⟨o, ho⟩) (fun i v s' _ _ x Q E q => by rw [hgo]; exact wpAny_pure q) h
    · rcases List.mem_cons.mp hm with q | hm
      · exact .inl q
      · rw [List.mem_singleton.mp hm]; exact .inr ⟨_, e1⟩
    · rw [List.getElem?_map] at hd
      obtain ⟨x, hx, rfl⟩ := Option.map_eq_some_iff.mp hd
      obtain ⟨w, bs, g1, g2⟩ := readsAll_get e4 hx
      have : w = v := by rw [Array.getElem?_toList] at g1; rw [hv] at g1; exact (Option.some.inj g1).symm
      subst this
      exact ⟨bs, Reads.keeps hk g2⟩
theorem iter_range {tg : Expr} {b : List Stmt} {bind : BindE} {B : XE} (hbind : As cx k sc tg bind) (hb : SL cx k sc b B) {f : Fx} {hid : List Addr} {m : Str → Option Value} {σ : Sg} {s : Shared} {P : Post} {E : Value → Shared → Prop} (hf : f.sc = sc) (ok : FxOk cx f hid k)
    (st : St cx f hid s.heap m σ) {n : Int} {v : Value} (r : Rep cx.LC hid s.heap (.rng n) v) (h0 : 0 ≤ n) (h1 : n ≤ 1000000) (hgo : ∀ it v, letOwnedTupleGo tg it v = pure ()) (h : forP bind B (upto n.toNat) σ P) :
    wpAny (model cx.prog cx.w) f.A (pyIter v) (fun it s₂ => codeAny (model cx.prog cx.w) f.A (.forLoop tg it b [] f.env) (fun r s' => match r with | .ok fl => FlQ cx f hid s P fl s' | .error e => cameBackBy (model cx.prog cx.w) f.A f.env (EvE cx f s P.exc) e s') s₂) E s := by
  obtain ⟨a, t, u, w, rfl, hr⟩ := r
  refine wpAny_pyIter_range (of_hideAll _ hr) (range_small h0 h1) ?_
  rw [range_size h0]
  have kp : ∀ b o, s.heap.get? b = some o → (s.heap.push { cls := .type "range_iterator", data := .fields #[rawInt 0, rawInt (n.toNat : Int), rawInt 1] }).get? b = some o := fun b o e => Heap.get?_push_of_some _ e
  refine for_walk hbind hb hf ok (I := s.heap.objs.size) (Walks.range ok.hh s.heap.objs.size 0 1 n.toNat) st (Heap.get?_none_of_le (Nat.le_refl _)) (Heap.get?_push_size _ rfl) kp ⟨rfl, rfl, rfl⟩ (fun b hm => .inl (List.mem_singleton.mp hm))
    (by simpa [IsRangeIter] using Heap.get?_push_size s.heap (o := { cls := .type "range_iterator", data := .fields #[rawInt 0, rawInt (n.toNat : Int), rawInt 1] }) rfl) (upto n.toNat) (by unfold upto; rw [List.length_map, List.length_range]) (fun i v h d hv hk hd => ?_) (fun i h x => ⟨_, x⟩) (fun i v s' _ _ x Q E q => by rw [hgo]; exact wpAny_pure q) h
  obtain ⟨t', rfl⟩ := hv
  unfold upto at hd
  rw [List.getElem?_map] at hd
  obtain ⟨x, hx, rfl⟩ := Option.map_eq_some_iff.mp hd
  have hxi : x = i := by
    have := List.getElem?_eq_some_iff.mp hx
    obtain ⟨q, q'⟩ := this
    rw [List.getElem_range] at q'
    exact q'.symm
  subst hxi
  have e : (0 : Int) + (x : Int) * 1 = (x : Int) := by omega
  rw [e]
  exact rep_int _ _

theorem iter_rows {tg : Expr} {b : List Stmt} {bind : BindE} {B : XE} (hbind : As cx k sc tg bind) (hb : SL cx k sc b B) {f : Fx} {hid : List Addr} {m : Str → Option Value} {σ : Sg} {s : Shared} {P : Post} {E : Value → Shared → Prop} (hf : f.sc = sc) (ok : FxOk cx f hid k)
    (st : St cx f hid s.heap m σ) {kvs : List (Str × Bool)} {v : Value} (r : Rep cx.LC hid s.heap (.rows kvs) v) (hgo : ∀ it v, letOwnedTupleGo tg it v = pure ()) (h : forP bind B (kvs.map fun p => S p.1) σ P) :
    wpAny (model cx.prog cx.w) f.A (pyIter v) (fun it s₂ => codeAny (model cx.prog cx.w) f.A (.forLoop tg it b [] f.env) (fun r s' => match r with | .ok fl => FlQ cx f hid s P fl s' | .error e => cameBackBy (model cx.prog cx.w) f.A f.env (EvE cx f s P.exc) e s') s₂) E s := by
  obtain ⟨a, rfl, h0, hr⟩ := r
  have hr : (hideAll s.heap hid).DictOf (PySem.strKind cx.prog cx.w) a (kvs.map fun p => (p.1, Value.bool p.2)) := hr
  generalize hK : (kvs.map fun p => (p.1, Value.bool p.2)) = kv at hr
  have hkl : kv.length = kvs.length := by rw [← hK, List.length_map]
  obtain ⟨o, ho, _⟩ := Heap.dictOf_iff.mp hr
  obtain ⟨ep, hd⟩ := (hr.keep fun _ _ e => of_hideAll _ e).dictAt
  have hlt := Heap.lt_size (of_hideAll _ ho)
  refine wpAny_pyIter_dict h0 hd ?_
  have kp : ∀ b o, s.heap.get? b = some o → (s.heap.push { cls := .type "dict_keyiterator", data := .fields #[.ref a, .int 0 0, .int kv.length 0, .int ep 0] }).get? b = some o := fun b o e => Heap.get?_push_of_some _ e
  refine for_walk hbind hb hf ok (I := s.heap.objs.size) (Walks.dictKeys (knd := PySem.strKind cx.prog cx.w) ok.hh s.heap.objs.size a (Nat.ne_of_lt hlt) kv ep) st (Heap.get?_none_of_le (Nat.le_refl _)) (Heap.get?_push_size _ rfl) kp ⟨rfl, rfl, rfl⟩ (fun b hm => ?_)
    ⟨⟨_, Heap.get?_push_size _ rfl, rfl, rfl⟩, hd.at' fun o e => kp _ _ e⟩ (kvs.map fun p => S p.1) (by rw [List.length_map, hkl]) (fun i v h d hv hk hd => ?_) (fun i h x => let ⟨o, ho, _⟩ := x.1; ⟨o, ho⟩) (fun i v s' _ _ x Q E q => by rw [hgo]; exact wpAny_pure q) h
  · rcases List.mem_cons.mp hm with q | hm
    · exact .inl q
    · rw [List.mem_singleton.mp hm]; exact .inr ⟨_, ho⟩
  · obtain ⟨y, x, h1, h2⟩ := hv
    rw [← hK] at h1
    rw [List.getElem?_map] at hd h1
    obtain ⟨p, hx, rfl⟩ := Option.map_eq_some_iff.mp hd
    rw [hx] at h1
    obtain ⟨rfl, -⟩ := Prod.mk.inj (Option.some.inj h1)
    obtain ⟨t, rfl⟩ : ∃ t, v = .str p.1 t := by
      unfold PySem.strKind at h2
      cases v <;> first | (simp [Value.isStrOf] at h2; done) | (simp [Value.isStrOf] at h2; obtain rfl := h2; exact ⟨_, rfl⟩)
    exact rep_str _ _

noncomputable def XE.for (bind : BindE) (a : SE) (b : XE) : XE := fun σ P => a σ (fun x => itemsP x fun items => forP bind b items σ P) P.exc
theorem Ss.for {tg iter b pos a bind B} (hi : Ev cx k sc iter a) (hbind : As cx k sc tg bind) (hb : SL cx k sc b B) (hs : ∀ env x, foldedSetIterable iter env x = pure x) (hgo : ∀ it v, letOwnedTupleGo tg it v = pure ()) :
    Ss cx k sc (.For tg iter b [] pos) (XE.for bind a B) := fun f hid m σ s P hf ok st h =>
  wpAny_For (hi.go hf ok st h (.refl _ _) (.refl _) fun v d s₁ hd r st₁ _ p₁ z₁ => by
    have fin : ∀ {it : Value} {s₂ : Shared}, codeAny (model cx.prog cx.w) f.A (.forLoop tg it b [] f.env) (fun r s' => match r with | .ok fl => FlQ cx f hid s₁ P fl s' | .error e => cameBackBy (model cx.prog cx.w) f.A f.env (EvE cx f s₁ P.exc) e s') s₂ →
        codeAny (model cx.prog cx.w) f.A (.forLoop tg it b [] f.env) (fun r s' => match r with | .ok fl => FlQ cx f hid s P fl s' | .error e => cameBackBy (model cx.prog cx.w) f.A f.env (EvE cx f s P.exc) e s') s₂ := fun c => codeAny_mono c fun r s' q => by
      cases r with
      | ok fl => exact q.back p₁ z₁
      | error e => exact wpAny_mono q (fun _ _ x => x.back st₁.fr p₁ z₁ id) fun _ _ x => x.back st₁.fr p₁ z₁ id
    unfold itemsP at hd
    split at hd
    · exact wpAny_mono (iter_list hbind hb hf ok st₁ r (fun _ _ _ _ s' _ Q E q => by rw [hgo]; exact wpAny_pure q) hd) (fun _ _ c => fin c) fun _ _ x => x
    · exact wpAny_mono (iter_tuple hbind hb hf ok st₁ r hgo hd) (fun _ _ c => fin c) fun _ _ x => x
    · exact wpAny_mono (iter_range hbind hb hf ok st₁ r hd.1.1 hd.1.2 hgo hd.2) (fun _ _ c => fin c) fun _ _ x => x
    · exact wpAny_mono (iter_rows hbind hb hf ok st₁ r hgo hd) (fun _ _ c => fin c) fun _ _ x => x
    · exact hd.elim) (hs _)

noncomputable def XE.forT (bind : BindE) (a : SE) (b : XE) : XE := fun σ P => a σ (fun x => itemsL x fun items => forP bind b items σ P) P.exc
theorem Ss.forT {es n tp iter b pos a bind B} (hi : Ev cx k sc iter a) (hbind : As cx k sc (.Tuple es n tp) bind) (hb : SL cx k sc b B) (hs : ∀ env x, foldedSetIterable iter env x = pure x) :
    Ss cx k sc (.For (.Tuple es n tp) iter b [] pos) (XE.forT bind a B) := fun f hid m σ s P hf ok st h =>
  wpAny_For (hi.go hf ok st h (.refl _ _) (.refl _) fun v d s₁ hd r st₁ _ p₁ z₁ => by
    have fin : ∀ {it : Value} {s₂ : Shared}, codeAny (model cx.prog cx.w) f.A (.forLoop (.Tuple es n tp) it b [] f.env) (fun r s' => match r with | .ok fl => FlQ cx f hid s₁ P fl s' | .error e => cameBackBy (model cx.prog cx.w) f.A f.env (EvE cx f s₁ P.exc) e s') s₂ →
        codeAny (model cx.prog cx.w) f.A (.forLoop (.Tuple es n tp) it b [] f.env) (fun r s' => match r with | .ok fl => FlQ cx f hid s P fl s' | .error e => cameBackBy (model cx.prog cx.w) f.A f.env (EvE cx f s P.exc) e s') s₂ := fun c => codeAny_mono c fun r s' q => by
      cases r with
      | ok fl => exact q.back p₁ z₁
      | error e => exact wpAny_mono q (fun _ _ x => x.back st₁.fr p₁ z₁ id) fun _ _ x => x.back st₁.fr p₁ z₁ id
    unfold itemsL at hd
    split at hd
    · refine wpAny_mono (iter_list hbind hb hf ok st₁ r (fun I l i v s' hit Q E q => ?_) hd) (fun _ _ c => fin c) fun _ _ x => x
      cases v with
      | ref T => exact wpAny_letOwnedTupleGo_listiter hit q
      | _ => exact wpAny_pure q
    · exact hd.elim) (hs _)
end

-- the part M10
noncomputable def bindS : List Str → List V → Sg → Sg
  | x :: xs, d :: ds, σ => bindS xs ds (upd σ x d)
  | _, _, σ => σ
theorem bindS_rep {LC : RC} {hid : List Addr} {h : Heap} : ∀ (ps : List Str) (ds : List V) (vs : List Value) (pre : List (Str × Value)) (σ : Sg), (∀ y d, σ y = some d → ∃ v, pre.reverse.lookup y = some v ∧ Rep LC hid h d v) → RepL LC hid h ds vs →
    ∀ y d, bindS ps ds σ y = some d → ∃ v, (pre ++ ps.zip vs).reverse.lookup y = some v ∧ Rep LC hid h d v
  | [], _, _, pre, σ, hσ, _, y, d, e => by
    simp only [bindS] at e
    rw [List.zip_nil_left, List.append_nil]; exact hσ y d e
  | x :: ps, [], [], pre, σ, hσ, _, y, d, e => by
    rw [List.zip_nil_right, List.append_nil]; exact hσ y d e
  | x :: ps, c :: ds, v :: vs, pre, σ, hσ, ⟨r, rs⟩, y, d, e => by
    have := bindS_rep ps ds vs (pre ++ [(x, v)]) (upd σ x c) (fun z dz ez => by
      rw [congrFun (lookup_reverse_snoc pre x v) z]
      by_cases q : z = x
      · subst q
        rw [upd_same] at ez
        obtain rfl := Option.some.inj ez
        exact ⟨v, if_pos rfl, r⟩
      · rw [upd_ne q] at ez
        obtain ⟨w, h1, h2⟩ := hσ z dz ez
        exact ⟨w, (if_neg q).trans h1, h2⟩) rs y d e
    rw [List.zip_cons_cons, show pre ++ (x, v) :: ps.zip vs = (pre ++ [(x, v)]) ++ ps.zip vs by simp]
    exact this
theorem RepL.append {LC : RC} {hid : List Addr} {h : Heap} {es : List V} {ws : List Value} (q : RepL LC hid h es ws) : ∀ {ds : List V} {vs : List Value}, RepL LC hid h ds vs → RepL LC hid h (ds ++ es) (vs ++ ws)
  | [], [], _ => q
  | _ :: _, _ :: _, ⟨a, b⟩ => ⟨a, q.append b⟩

section
variable {cx : Cx} {k : Nat}

noncomputable abbrev funPost (Q : V → Prop) (X : Prop) : Post := ⟨fun _ => Q NN, Q, fun _ => False, fun _ => False, X⟩
theorem OK.mk {x : Str} {a : Addr} {oc : Value} {od : Option Addr} {osl : Array (Option Value)} {name qual : Str} {params : Arguments} {body : List Stmt} {scope : Scope} {dV kV doc pm cdv ct : Value} {an : Option Addr} {ps : List Str} {n : Nat} {dvs : List Value} {dds : List V} {T : XE} {Sp : Spec}
    (hns : nsIn cx.K mainGlobals x = some (some (.ref a))) (hkeep : keepIn cx.K (.ref a) = true)
    (ho : cx.K.lookup a = some ⟨oc, od, .func (fnOf name qual params body scope dV kV doc pm an cdv ct), osl⟩) (hcd : codeIn cx.K cdv qual = true)
    (hbind : ∀ (s : Shared) (vs : List Value), cx.K.In s.heap → vs.length = n → BindsTo s (fnOf name qual params body scope dV kV doc pm an cdv ct) ⟨vs, []⟩ (ps.zip (vs ++ dvs)))
    (hd : ∀ hid h, RepL cx.LC hid h dds dvs) (hloc : (ps.all fun y => decide (scope.names.lookup y = some .local)) = true)
    (hcell : ∀ x ∈ scope.names, x.2 ≠ .cell) (hco : scope.isCoroutine = false) (hgen : scope.isGenerator = false) (hk : scope.kind = .function)
    (hT : SL cx k scope body T) (hS : ∀ ds Q X, Sp ds Q X → ds.length = n ∧ T (bindS ps (ds ++ dds) fun _ => none) (funPost Q X)) : OK cx (k + 1) x Sp := by
  refine ⟨a, hns, hkeep, fun ds Q X hsp f hid m σ s vs ok st r => ?_⟩
  obtain ⟨hn, hTT⟩ := hS ds Q X hsp
  have lim : s.heap.NoLimit := cx.top.nolimit.keeps st.fr.keep
  have hin : cx.K.In s.heap := cx.inK.keeps st.fr.keep
  have hlen := r.length
  have hzip : ∀ y ∈ ps.zip (vs ++ dvs), scope.names.lookup y.1 = some .local := fun y hy => by
    obtain ⟨y1, y2⟩ := y
    exact of_decide_eq_true (List.all_eq_true.mp hloc y1 (List.of_mem_zip hy).1)
  refine wpAny_call (codeAny_call_def (fd := fnOf name qual params body scope dV kV doc pm an cdv ct) (body := body) (binds := ps.zip (vs ++ dvs)) (by have := ok.depth; unfold recursionLimit; omega) (hin _ _ ho) rfl lim (codeRec_of hin hcd) rfl
    (hbind s vs hin (hlen.trans hn)) hcell hzip (fun h₁ hns₁ hk₁ => ?_) hco hgen hk)
  -- the callee's frame
  let f' : Fx := ⟨qual, scope, s.heap.objs.size, a, cdv, f.env :: f.outer, f.A.deeper (envOf qual scope s.heap.objs.size a cdv)⟩
  have hof : f'.of = f.L :: f.of := rfl
  have hfresh : s.heap.get? s.heap.objs.size = none := Heap.get?_none_of_le (Nat.le_refl _)
  have hLL : s.heap.objs.size ≠ f.L ∧ s.heap.objs.size ∉ f.of := not_frame ok st hfresh
  have h0L : cx.H₀.get? s.heap.objs.size = none := by
    cases q : cx.H₀.get? s.heap.objs.size with
    | none => rfl
    | some o => rw [st.fr.keep _ o q] at hfresh; cases hfresh
  have ok' : FxOk cx f' (s.heap.objs.size :: hid) k := by
    refine ⟨Around.frames_deeper ok.hA, ok.hh, hk, hgen, hco, .head _, fun b hb => ?_, fun hb => ?_, fun b hb => ?_, ?_, ?_⟩
    · rw [hof] at hb
      rcases List.mem_cons.mp hb with rfl | hb
      · exact .tail _ ok.Lhid
      · exact .tail _ (ok.ohid b hb)
    · rw [hof] at hb
      rcases List.mem_cons.mp hb with q | hb
      · exact hLL.1 q
      · exact hLL.2 hb
    · rcases List.mem_cons.mp hb with rfl | hb
      · exact h0L
      · exact ok.h0 b hb
    · have := ok.depth
      show f.A.depth + 1 + k + 100 < 1000
      omega
    · have := ok.units
      show f.A.units + 3 + 8 * k + 200 < 9900
      omega
  have vmap : ∀ b o, (hideAll s.heap hid).get? b = some o → (hideAll h₁ (s.heap.objs.size :: hid)).get? b = some o := hideAll_mono (fun b o e _ => hk₁ b o e) fun b o e hb hm => by
    rcases List.mem_cons.mp hm with rfl | hm
    · rw [hfresh] at e; cases e
    · exact hb hm
  have st' : St cx f' (s.heap.objs.size :: hid) h₁ (fun y => List.lookup y (ps.zip (vs ++ dvs)).reverse) (bindS ps (ds ++ dds) fun _ => none) := by
    refine ⟨⟨hns₁, fun b o e => hk₁ b o (st.fr.keep b o e), ?_⟩, fun y d e => ?_, ?_, fun b hb => ?_⟩
    · exact Nat.le_trans st.fr.above (Nat.le_of_lt st.fr.ns.lt)
    · exact bindS_rep ps (ds ++ dds) (vs ++ dvs) [] (fun _ => none) (fun _ _ q => by cases q) ((hd _ _).append (r.mono vmap)) y d e
    · obtain ⟨oL, e1, e2⟩ := ns_notFields st.fr.ns
      have hL0 : cx.H₀.get? f.L = none := ok.h0 _ ok.Lhid
      exact ⟨by show f.sc.kind ≠ .module; rw [ok.hk]; decide, ⟨f.L, oL, rfl, hL0, hk₁ _ _ e1, e2⟩, funFrames_pres (fun b _ o e => ⟨o.slots, hk₁ b o e⟩) st.frames⟩
    · rcases List.mem_cons.mp hb with rfl | hb
      · obtain ⟨o, _, _, e, _⟩ := hns₁; exact ⟨o, e⟩
      · obtain ⟨o, e⟩ := st.old b hb; exact ⟨o, hk₁ b o e⟩
  -- what the callee keeps, the caller has
  have back : ∀ {h' : Heap}, Pres f' h₁ h' → Pres f s.heap h' := fun {h'} p b o e n => by
    have ne : b ≠ s.heap.objs.size := fun q => by rw [q, hfresh] at e; cases e
    have q := p b o (hk₁ b o e) ne
    exact ⟨fun hb => q.1 (by rw [hof]; exact fun hm => (List.mem_cons.mp hm).elim n hb), q.2⟩
  have frame : ∀ {h' : Heap}, Pres f' h₁ h' → cx.H₀.StaysIn h' → Fr cx.H₀ f.L h' m := fun {h'} p q => by
    obtain ⟨oL, es, ep, e1, e2⟩ := st.fr.ns
    obtain ⟨sl, e3⟩ := (p f.L oL (hk₁ _ _ e1) fun z => hLL.1 z.symm).2
    exact ⟨⟨_, es, ep, e3, e2⟩, q, st.fr.above⟩
  have run := hT f' (s.heap.objs.size :: hid) _ _ { s with heap := h₁, toks := s.toks + (ps.zip (vs ++ dvs)).length } (funPost Q X) rfl ok' st' hTT
  refine wpAny_mono run (fun fl s' ⟨p, z, q⟩ => ?_) fun e s' ⟨hX, ae, he, i, z⟩ => ?_
  · have sm : Same s s' := ⟨z.1, z.2, z.3⟩
    cases fl with
    | next =>
      obtain ⟨m', σ', a1, a2⟩ := q
      exact ⟨NN, a2, rep_none, frame p a1.fr.keep, back p, sm⟩
    | ret v =>
      obtain ⟨d, m', σ', a1, a2, a3⟩ := q
      exact ⟨d, a3, a2.unhide, frame p a1.fr.keep, back p, sm⟩
    | brk => obtain ⟨m', σ', a1, a2⟩ := q; exact a2.elim
    | cont => obtain ⟨m', σ', a1, a2⟩ := q; exact a2.elim
  · subst he
    show wpAny _ f'.A (do noteFrame (.ref ae) f'.env; setFlight (.ref ae) none) _ _ _
    refine wpAny_bind (note_ok ok' st' i rfl fun h' t => ?_)
    refine setFlight_ok (s := { s' with heap := h' }) ok' st' t fun h'' t' => ?_
    exact ⟨hX, ae, rfl, t'.out ok ok' st st' rfl hk₁ hfresh, ⟨z.1, z.2, z.3⟩⟩
end

-- the part M11
/-- the class RunFault, as the top leaves it; fI: the def of __init__ that it has from its base -/
structure RFacts (K : Frag) (RF fI : Addr) (iqual : Str) (iparams : Arguments) (ibody : List Stmt) (iscope : Scope) (dV kV doc pm cdv ct oc : Value) (an od : Option Addr) (osl : Array (Option Value)) : Prop where
  cls : ∃ (nm q : Str) (F7 N : Addr) (bs : List Value) (hdct : Bool) (sn : List Str) (sub : List Value) (ab : Bool) (col : Option Bool) (dd : Option Addr) (k0 k1 k2 k3 k5 : Option Value),
    K.lookup RF = some (excClassObj nm q RF N bs [.ref F7, .type "Exception", .type "BaseException", .type "object"] hdct sn sub ab col dd k0 k1 k2 k3 k5 "Exception.__new__")
  init : findIn K (.ref RF) "__init__" = some (some (.ref fI))
  fn : typeIn K (.ref fI) = some (.type "function")
  obj : K.lookup fI = some ⟨oc, od, .func (fnOf "__init__" iqual iparams ibody iscope dV kV doc pm an cdv ct), osl⟩
  code : codeIn K cdv iqual = true

structure NewRF (RF : Addr) (h h' : Heap) (e : Addr) : Prop where
  keeps : ∀ b o, h.get? b = some o → h'.get? b = some o
  new : h.get? e = none
  there : ∃ oe vs a0, h'.get? e = some oe ∧ oe.cls = .ref RF ∧ oe.data = .fields vs ∧ vs[0]? = some a0 ∧ vs[1]? = some .none

section
variable {prog : Program} {w : World} {A : Around} {R : Result → Shared → Prop} {h : Heap} {g : Array GenState} {d : Drawn} {t : Nat} {os : OsState}
variable {nm q : Str} {C N F7 : Addr} {bs : List Value} {hdct : Bool} {sn : List Str} {sub : List Value} {ab : Bool} {col : Option Bool} {dd : Option Addr} {k0 k1 k2 k3 k5 : Option Value}

noncomputable abbrev bmX (F7 : Addr) : List Value := [.ref F7, .type "Exception", .type "BaseException", .type "object"]
theorem bmX_has {F7 C : Addr} : (Value.ref C :: bmX F7).contains (.type "Exception") = true := by simp [bmX]
theorem bmX_noA {F7 C : Addr} : (Value.ref C :: bmX F7).contains (.type "AttributeError") = false := by simp [bmX]
theorem bmX_noN {F7 C : Addr} : (Value.ref C :: bmX F7).contains (.type "NameError") = false := by simp [bmX]
theorem bmX_base {F7 C : Addr} : (Value.ref C :: bmX F7).contains (.type "BaseException") = true := by simp [bmX]
theorem bmX_self {F7 C : Addr} : (Value.ref C :: bmX F7).contains (.ref C) = true := by simp [bmX]

theorem check_new_X {M : Model} {rest : List Value} {Q : Unit → Shared → Prop} {E : Value → Shared → Prop} (hC : h.get? C = some (excClassObj nm q C N bs (bmX F7) hdct sn sub ab col dd k0 k1 k2 k3 k5 "Exception.__new__"))
    (hq : Q () ⟨h, g, d, t, os⟩) : wpAny M A (checkBuiltinCall "Exception.__new__" ⟨.ref C :: rest, []⟩) Q E ⟨h, g, d, t, os⟩ := by
  have F := PySem.F.excBase_Exception
  have hcont := bmX_has (F7 := F7) (C := C)
  have hstar := F.noStar
  simp only [checkBuiltinCall, F.newKind, F.newSplit, F.newRow]
  repeat (first | refine wpAny_loadPart_at hC ?_ | (refine wpAny_isSubtype_exc hC ?_; rw [hcont]) | refine wpAny_staticBase_exc hC ?_ | refine wpAny_madeBy_exc hC ?_ | simp only [bne_self_eq_false, Bool.false_eq_true, if_false] | wp_step)
  exact hq

theorem exc_new_X {rest : List Value} (hC : h.get? C = some (excClassObj nm q C N bs (bmX F7) hdct sn sub ab col dd k0 k1 k2 k3 k5 "Exception.__new__"))
    (hq : R (.ok (.ret (.ref (h.objs.size + 1)))) ⟨(h.push { cls := .type "tuple", data := .seq rest.toArray }).push
      { cls := .ref C, data := .fields #[.ref h.objs.size, .none, .none, .none, .bool false, .none] }, g, d, t, os⟩) (hrest : rest.length ≤ sizeLine) :
    codeAny (model prog w) A (.builtin "Exception.__new__" ⟨.ref C :: rest, []⟩) R ⟨h, g, d, t, os⟩ := by
  have F := PySem.F.excBase_Exception
  have hends := F.ends
  have hcB := bmX_has (F7 := F7) (C := C)
  have hcA := bmX_noA (F7 := F7) (C := C)
  have hcN := bmX_noN (F7 := F7) (C := C)
  refine PySem.codeAny_builtinAt F.entry ?_
  unfold Builtin.«BaseException.__new__»
  refine PySem.wpAt_bind ?_
  show PySem.wpAt _ _ _ (stack >>= _) _ _ _
  refine PySem.wpAt_bind (PySem.wpAt_stack fun p below => PySem.wpAt_of_wpAny ?_)
  wp_walk
  refine PySem.wpAt_of_wpAny ?_
  rw [F.owner]
  repeat (first | with_reducible refine wpAny_madeHere_exc F.canon hC ?_ | with_reducible refine wpAny_loadPart_at hC ?_ | (with_reducible refine wpAny_isSubtype_exc hC ?_; first | rw [hcB] | rw [hcA] | rw [hcN]) | wp_step)
  show R _ _
  rw [Heap.size_push]
  exact hq
end

section
variable {prog : Program} {w : World} {A : Around} {K : Frag} {RF fI : Addr} {iqual : Str} {iparams : Arguments} {ibody : List Stmt} {iscope : Scope} {dV kV doc pm cdv ct oc : Value} {an od : Option Addr} {osl : Array (Option Value)}

/-- the class is called: the new object stands, and its __init__ is to run -/
theorem call_RF (Y : RFacts K RF fI iqual iparams ibody iscope dV kV doc pm cdv ct oc an od osl) {s : Shared} (X : K.In s.heap) {rest : List Value} (hrest : rest.length ≤ sizeLine) {Q : Value → Shared → Prop} {E : Value → Shared → Prop}
    (k : ∀ h', (∀ b o, s.heap.get? b = some o → h'.get? b = some o) → h'.get? (s.heap.objs.size + 1) = some { cls := .ref RF, data := .fields #[.ref s.heap.objs.size, .none, .none, .none, .bool false, .none] } →
      codeAny (model prog w) (A.under (.builtin "type.__call__" ⟨.ref RF :: rest, []⟩)) (.call (.ref fI) ⟨.ref (s.heap.objs.size + 1) :: rest, []⟩)
        (InitBack (s.heap.objs.size + 1) fun r s' => match r with | .ok (.ret v) => Q v s' | .ok _ => False | .error e => E e s') { s with heap := h' }) :
    wpAny (model prog w) A (call (.ref RF) rest) Q E s := by
  obtain ⟨nm, q, F7, N, bs, hdct, sn, sub, ab, col, dd, k0, k1, k2, k3, k5, hC0⟩ := Y.cls
  obtain ⟨h, g, d, t, os⟩ := s
  have hC : h.get? RF = some (excClassObj nm q RF N bs (bmX F7) hdct sn sub ab col dd k0 k1 k2 k3 k5 "Exception.__new__") := X _ _ hC0
  have F := PySem.F.excBase_Exception
  have f1 := tc_lookup
  have f2 := tc_bind (.ref RF)
  have hT : (⟨h, g, d, t, os⟩ : Shared).TypeIs (.ref RF) "type" := ⟨_, hC, rfl⟩
  refine wpAny_call (codeAny_of_tree ?_)
  show wpAny _ _ (callAny (.ref RF) _) _ _ _
  repeat (any_goals (first | assumption | with_reducible refine wpAny_loadPart_at hC ?_ | wp_step))
  refine ⟨rfl, ?_⟩
  refine codeAny_call_builtin_at (Code.quiet_builtin _ (by decide +kernel)) entry_typeCall (wpAny_check_type_call_sub hC ?_)
  repeat (first | with_reducible refine wpAny_loadPart_at hC ?_ | with_reducible refine wpAny_madeBy_exc hC ?_ | wp_step)
  refine codeAny_call_builtin_code (Code.quiet_builtin _ F.quiet) (check_new_X hC ?_)
  refine exc_new_X hC ?_ hrest
  show wpAny _ _ _ _ _ _
  have kp : ∀ b o, h.get? b = some o → ((h.push { cls := .type "tuple", data := .seq rest.toArray }).push { cls := .ref RF, data := .fields #[.ref h.objs.size, .none, .none, .none, .bool false, .none] }).get? b = some o :=
    fun b o e => Heap.get?_push_of_some _ (Heap.get?_push_of_some _ e)
  have hC₁ := kp _ _ hC
  have X₁ := X.keeps kp
  have hget : ((h.push { cls := .type "tuple", data := .seq rest.toArray }).push
      { cls := .ref RF, data := .fields #[.ref h.objs.size, .none, .none, .none, .bool false, .none] }).get? (h.objs.size + 1) = some
      { cls := .ref RF, data := .fields #[.ref h.objs.size, .none, .none, .none, .bool false, .none] } := by heap_get
  have hcC := bmX_self (F7 := F7) (C := RF)
  unfold isInstance
  repeat (first | with_reducible refine wpAny_loadPart_at hget ?_ | (refine wpAny_isSubtype_exc hC₁ ?_; rw [hcC]) | wp_step)
  show wpAny _ _ (typeLookup (.ref RF) _) _ _ _
  refine (looks_findIn X₁ Y.init).here ?_
  refine wpAny_holding (wpAny_bind ((bind_fn X₁ _ Y.fn).here ?_))
  refine wpAny_bind (wpAny_call ?_)
  refine codeAny_mono (k _ kp hget) fun r s' z => ?_
  rcases r with e | (v | _ | _ | _) <;> first | exact z | exact z.elim | skip
  obtain ⟨rfl, z⟩ := z
  exact wpAny_pure (wpAny_pure z)
end

-- the part M12
section
section
variable {h : Heap} {g : Array GenState} {d : Drawn} {t : Nat} {os : OsState}
variable {nm q : Str} {C N F7 : Addr} {bs : List Value} {hdct : Bool} {sn : List Str} {sub : List Value} {ab : Bool} {col : Option Bool} {dd : Option Addr} {k0 k1 k2 k3 k5 : Option Value}

theorem check_init_X {A : Around} {E : Value → Shared → Prop} {M : Model} {e : Addr} {oe : Obj} {rest : List Value} {Q : Unit → Shared → Prop}
    (hC : h.get? C = some (excClassObj nm q C N bs (bmX F7) hdct sn sub ab col dd k0 k1 k2 k3 k5 "Exception.__new__")) (he : h.get? e = some oe) (hcls : oe.cls = .ref C) (hq : Q () ⟨h, g, d, t, os⟩) :
    wpAny M A (checkBuiltinCall "Exception.__init__" ⟨.ref e :: rest, []⟩) Q E ⟨h, g, d, t, os⟩ := by
  have F := PySem.F.excBase_Exception
  have hcB := bmX_has (F7 := F7) (C := C)
  have hshort := F.noStar
  simp only [checkBuiltinCall, F.initKind, F.initSplit, F.initRow]
  repeat (first | (with_reducible refine wpAny_loadPart_at he ?_; rw [hcls]) | with_reducible refine wpAny_loadPart_at hC ?_ | (with_reducible refine wpAny_isSubtype_exc hC ?_; rw [hcB]) | wp_step)
  refine wpAny_onRaise ?_
  rw [show ∀ (a b : String) (n : Nat), Bind.check ⟨.positional, "*", "Exception", .self, [⟨"args", .varPos, false⟩]⟩ a b n (List.map (fun x => x.fst) ({ pos := Value.ref e :: rest } : Args).kw) = pure () from
    fun a b n => check_star_args _ _ _ _ _ _]
  exact wpAny_pure hq
end

section
variable {prog : Program} {w : World} {A : Around} {K : Frag} {p : Program} {loose : List Str} {mg mb : Str → Option Value}

/-- Exception.__init__(self, text) upon an own exception -/
theorem exc_init {s : Shared} {e RF F7 N : Addr} {nm q : Str} {bs : List Value} {hdct : Bool} {sn : List Str} {sub : List Value} {ab : Bool} {col : Option Bool} {dd : Option Addr} {k0 k1 k2 k3 k5 : Option Value} {oe : Obj} {vs : Array Value} {v : Value} {Q : Value → Shared → Prop} {E : Value → Shared → Prop}
    (hC : s.heap.get? RF = some (excClassObj nm q RF N bs (bmX F7) hdct sn sub ab col dd k0 k1 k2 k3 k5 "Exception.__new__")) (he : s.heap.get? e = some oe) (hc : oe.cls = .ref RF) (hd : oe.data = .fields vs) (hsz : 0 < vs.size)
    (k : ∀ h', (∀ b o, b ≠ e → s.heap.get? b = some o → h'.get? b = some o) → h'.get? e = some { oe with data := .fields (vs.setIfInBounds 0 (.ref s.heap.objs.size)) } → Q .none { s with heap := h' }) :
    wpAny (model prog w) A (call (.builtin "Exception.__init__") [.ref e, v]) Q E s := by
  have F := PySem.F.excBase_Exception
  obtain ⟨h, g, d, t, os⟩ := s
  refine wpAny_call (codeAny_call_builtin F.init.plain F.initEntry (check_init_X hC he hc ?_))
  unfold Builtin.«BaseException.__init__»
  have hlt := Heap.lt_size he
  have hne : h.objs.size ≠ e := Nat.ne_of_gt hlt
  obtain ⟨oc, od, oda, osl⟩ := oe
  dsimp only at hc hd
  subst hc hd
  obtain ⟨x0, hx0⟩ : ∃ x, vs[0]? = some x := ⟨vs[0], Array.getElem?_eq_getElem hsz⟩
  show wpAny _ _ (newTuple [v] >>= fun tp => _) _ _ _
  refine wpAny_bind (wpAny_newObj_type ?_ (by show (1 : Nat) ≤ sizeLine; rw [sizeLine_eq]; decide))
  refine wpAny_bind ?_
  show wpAny _ _ (field (.ref e) 0 >>= fun old => _) _ _ _
  have he' := Heap.get?_push_of_some (h := h) { cls := .type "tuple", data := .seq [v].toArray } he
  refine wpAny_bind (wpAny_field (s := ⟨h.push { cls := .type "tuple", data := .seq [v].toArray }, g, d, t, os⟩) he' rfl hx0 ?_)
  refine wpAny_bind (wpAny_setField he' rfl hsz ?_)
  have fin : Q .none ⟨(h.push { cls := .type "tuple", data := .seq [v].toArray }).update e (Obj.mapFields (·.setIfInBounds 0 (.ref h.objs.size))), g, d, t, os⟩ := by
    refine k _ (fun b o hb e' => ?_) ?_
    · rw [Heap.get?_update_other _ _ (Ne.symm hb)]; exact Heap.get?_push_of_some _ e'
    · exact Heap.get?_update_self _ he' rfl
  cases x0 with
  | ref r => exact wpAny_bind (wpAny_holding (wpAny_point (wpAny_pure (wpAny_pure fin))))
  | _ => exact wpAny_pure (wpAny_pure fin)
end
section
open Builtin Builtin.ObjectAttr Builtin.Getset_descriptor
variable {prog : Program} {w : World} {A : Around} {K : Frag}
theorem refuse_exc (self : Value) (a b : Addr) : refuseLoop self "__setattr__" [.ref a, .ref b, .type "Exception", .type "BaseException", .type "object"] = pure () := by
  rw [refuseLoop_ref, refuseLoop_ref]
  kernel_rfl

theorem osa_exc {s : Shared} {R : Result → Shared → Prop} {x RF : Addr} {tk : Tok} {v : Value} {vs : Array Value} {sl : Array (Option Value)} {cd : ClassData} (X : K.In s.heap) (hx : s.heap.get? x = some ⟨.ref RF, none, .fields vs, sl⟩)
    (hc : clsIn K RF = some cd) (hm : ∃ F7, cd.mro = [.ref RF, .ref F7, .type "Exception", .type "BaseException", .type "object"]) (hdct : cd.hasDict = true) (ht : takerIn K RF "text" = some none)
    (k : ∀ h' tk' dx, (∀ b o, b ≠ x → s.heap.get? b = some o → h'.get? b = some o) → h'.get? x = some ⟨.ref RF, some dx, .fields vs, sl⟩ → R (.ok (.ret .none)) { s with heap := h', toks := tk' }) :
    codeAny (model prog w) A (.call (.builtin "object.__setattr__") ⟨[.ref x, .str "text" tk, v], []⟩) R s := by
  have SF := PySem.F.store_object
  obtain ⟨F7, hmro⟩ := hm
  have I : InstAt s.heap x ⟨.ref RF, none, .fields vs, sl⟩ RF none := ⟨hx, rfl, rfl, trivial⟩
  have ne : cd.mro.isEmpty = false := by rw [hmro]; rfl
  have sub : Looks (model prog w) s.heap (isInstance (.ref x) (.type "object")) true := I.type.andThen (looks_mroIn X (by unfold mroIn; rw [hc, Option.bind_some, if_neg (by rw [ne]; decide), hmro]; simp))
  refine codeAny_call_builtin SF.slot.plain SF.entry (@check_slot (model prog w) _ _ s "object.__setattr__" "object" "__setattr__" (.ref x) [.str "text" tk, v] [] _ SF.kind SF.split sub (SF.args (.ref x) (.str "text" tk) v) ?_)
  obtain ⟨attr, ha, hr⟩ := Option.bind_eq_some_iff.mp ht
  have hm : Looks (model prog w) s.heap (mroOf (.ref RF)) cd.mro := (looks_clsIn X hc).andThen .now
  have L3 : Looks (model prog w) s.heap (storeTaker? attr) none := by
    cases attr with
    | none => exact .now
    | some a =>
      obtain ⟨b, hb, hr⟩ := Option.map_eq_some_iff.mp hr
      refine (looks_takesIn X hb).andThen ?_
      cases b with
      | true => cases hr
      | false => exact .now
  rw [osa_eq, refuse_eq]
  refine wpAny_bind (wpAny_bind (I.type.here (wpAny_bind (hm.here ?_))))
  rw [hmro, refuse_exc]
  refine wpAny_pure (wpAny_bind (I.type.here (wpAny_bind ((looks_findIn X ha).here (wpAny_bind (L3.here ?_))))))
  refine wpAny_bind (wpAny_pure (wpAny_bind (wpAny_bind (wpAny_loadPart hx (wpAny_bind ((looks_clsIn X hc).here ?_))))))
  rw [hdct]
  have hxs : x ≠ s.heap.objs.size := Nat.ne_of_lt (Heap.lt_size hx)
  have hx₁ : (s.heap.push { cls := .type "dict", data := .dict #[] }).get? x = some ⟨.ref RF, none, .fields vs, sl⟩ := Heap.get?_push_of_some _ hx
  rw [if_neg (by decide)]
  dsimp only
  rw [if_neg (by simp [typeHasDict])]
  refine wpAny_bind (wpAny_alloc ?_)
  refine wpAny_bind (wpAny_update (s := { s with heap := s.heap.push { cls := .type "dict", data := .dict #[] } }) hx₁ ?_)
  refine wpAny_pure ?_
  have hgd : ((s.heap.push { cls := .type "dict", data := .dict #[] }).update x fun o => { cls := o.cls, dict := some s.heap.objs.size, data := o.data, slots := o.slots }).get? s.heap.objs.size
      = some { cls := .type "dict", data := .dict #[] } :=
    (Heap.get?_update_ne _ _ _ _ hxs.symm).trans (Heap.get?_push_at rfl rfl)
  have hnd : ((s.heap.push { cls := .type "dict", data := .dict #[] }).update x fun o => { cls := o.cls, dict := some s.heap.objs.size, data := o.data, slots := o.slots }).Ns s.heap.objs.size (fun _ => none) :=
    ⟨_, #[], _, hgd, rfl, fun e he => absurd he (by simp), fun _ => rfl⟩
  show wpAny _ _ (storeInDict s.heap.objs.size (.str "text" tk) "text" v) _ _ _
  unfold storeInDict newKeyGuard
  refine wpAny_bind (wpAny_pure (wpAny_bind (wpAny_nsSet1 (Heap.Ns1.of_empty hnd) fun h' hn' hs => ?_)))
  obtain ⟨oD, esD, epD, hoD, hdD, hcD⟩ := hn'.count (Within.cons "text" v Within.nil)
  refine wpAny_bind (wpAny_lookBehind hoD (by rw [hdD]; exact pastItsLine_dict (Nat.le_trans hcD (by rw [List.length_cons, List.length_nil, sizeLine_eq]; omega))) ?_)
  refine wpAny_pure (k h' _ s.heap.objs.size (fun b ob hbx hb => ?_) ?_)
  · exact (hs.2 b (Nat.ne_of_lt (Heap.lt_size hb))).trans ((Heap.get?_update_ne _ _ _ _ hbx).trans (Heap.get?_push_of_some _ hb))
  · exact (hs.2 x hxs).trans (Heap.get?_update_self _ hx₁ rfl)
end
end

-- the part M13
/-- the class RunFault is called upon one argument -/
noncomputable def RFCall (cx : Cx) : Prop := ∀ (A : Around) (s : Shared) (v : Value) (Q : Value → Shared → Prop) (E : Value → Shared → Prop), A.depth + 50 < 1000 → cx.H₀.StaysIn s.heap → cx.H₀.objs.size ≤ s.heap.objs.size →
  (∀ h' tk e dx tup, s.heap.StaysIn h' → s.heap.get? e = none → h'.get? e = some ⟨.ref cx.RF, some dx, .fields #[.ref tup, .none, .none, .none, .bool false, .none], #[]⟩ → Q (.ref e) { s with heap := h', toks := tk }) →
  wpAny (model cx.prog cx.w) A (call (.ref cx.RF) [v]) Q E s

theorem RFCall.of {cx : Cx} {fI : Addr} {iqual : Str} {iparams : Arguments} {iscope : Scope} {dV kV doc pm cdv ct oc : Value} {an od : Option Addr} {osl : Array (Option Value)} {p1 p2 p3 p4 p5 p6 p7 p8 p9 p10 : Pos}
    (Y : RFacts cx.K cx.RF fI iqual iparams [.Expr (.Call (.Attribute (.Name "Exception" p1) "__init__" p2) [.Name "self" p3, .Name "text" p4] [] p5) p6, .Assign [.Attribute (.Name "self" p7) "text" p8] (.Name "text" p9) p10] iscope dV kV doc pm cdv ct oc an od osl)
    (exc : nsIn cx.K mainGlobals "Exception" = some none) (exB : bootBuiltins "Exception" = some (.type "Exception"))
    (hbind : ∀ (s : Shared) (self t : Value), cx.K.In s.heap → BindsTo s (fnOf "__init__" iqual iparams [.Expr (.Call (.Attribute (.Name "Exception" p1) "__init__" p2) [.Name "self" p3, .Name "text" p4] [] p5) p6, .Assign [.Attribute (.Name "self" p7) "text" p8] (.Name "text" p9) p10] iscope dV kV doc pm an cdv ct) ⟨[self, t], []⟩ [("self", self), ("text", t)])
    (hcell : ∀ x ∈ iscope.names, x.2 ≠ .cell) (l1 : iscope.names.lookup ("self" : Str) = some .local) (l2 : iscope.names.lookup ("text" : Str) = some .local) (l3 : iscope.names.lookup ("Exception" : Str) = some .globalImplicit)
    (hco : iscope.isCoroutine = false) (hgen : iscope.isGenerator = false) (hk : iscope.kind = .function)
    (seta : findIn cx.K (.ref cx.RF) "__setattr__" = some (some (.builtin "object.__setattr__")))
    {cd : ClassData} (hc : clsIn cx.K cx.RF = some cd) (hm : ∃ F7, cd.mro = [.ref cx.RF, .ref F7, .type "Exception", .type "BaseException", .type "object"]) (hdct : cd.hasDict = true) (ht : takerIn cx.K cx.RF "text" = some none)
    (initv : findCls cx.K (.type "Exception") (.type "type") "__init__" = some (.val (.builtin "Exception.__init__")))
    (hcall : ∀ env, ∃ pl : Sem Bool, eval (.Call (.Attribute (.Name "Exception" p1) "__init__" p2) [.Name "self" p3, .Name "text" p4] [] p5) env = (do
      let ov ← eval (.Name "Exception" p1) env
      standAt p2.atName
      let (f, first) ← holding [ov] (getMethod ov "__init__" pl)
      callWith p5 f first (backTo p5 (starEach [.Name "self" p3, .Name "text" p4] env)) []))
    : RFCall cx := by
  intro A s v Q E hd hst hsz k
  have X : cx.K.In s.heap := cx.inK.keeps hst
  refine call_RF Y X (by rw [sizeLine_eq]; simp) fun h' kp hnew => ?_
  have X' : cx.K.In h' := X.keeps kp
  have lim : h'.NoLimit := cx.top.nolimit.keeps fun b o e => kp b o (hst b o e)
  refine codeAny_call_def (by show A.depth + _ < recursionLimit; unfold recursionLimit; show A.depth + 1 < _; omega) (X' _ _ Y.obj) rfl lim (codeRec_of X' Y.code) rfl (hbind _ _ _ X') hcell (fun x hx => ?_) (fun h₁ hns hk₁ => ?_) hco hgen hk
  · rcases List.mem_cons.mp hx with rfl | hx
    · exact l1
    · rw [List.mem_singleton.mp hx]; exact l2
  have hsz' : s.heap.objs.size ≤ h'.objs.size := by
    exact Nat.le_of_lt (Nat.lt_of_succ_lt (Heap.lt_size hnew))
  have hfr : ∀ b o, cx.H₀.get? b = some o → h₁.get? b = some o := fun b o e => hk₁ b o (kp b o (hst b o e))
  have F : Fr cx.H₀ h'.objs.size h₁ (fun y => List.lookup y ([(("self" : Str), Value.ref (s.heap.objs.size + 1)), (("text" : Str), v)] : List (Str × Value)).reverse) := ⟨hns, hfr, by omega⟩
  have hself : (fun y => List.lookup y ([(("self" : Str), Value.ref (s.heap.objs.size + 1)), (("text" : Str), v)] : List (Str × Value)).reverse) "self" = some (.ref (s.heap.objs.size + 1)) := rfl
  have htext : (fun y => List.lookup y ([(("self" : Str), Value.ref (s.heap.objs.size + 1)), (("text" : Str), v)] : List (Str × Value)).reverse) "text" = some v := rfl
  have he0 := hk₁ _ _ hnew
  have hne : s.heap.objs.size + 1 ≠ h'.objs.size := Nat.ne_of_lt (Heap.lt_size hnew)
  show wpAny _ _ (execs _ (envOf iqual iscope h'.objs.size fI cdv)) _ _ _
  have hint : interactive (envOf iqual iscope h'.objs.size fI cdv) = false := by unfold interactive; show (iscope.kind == .module && _) = false; rw [hk]; rfl
  obtain ⟨pl, hcall⟩ := hcall (envOf iqual iscope h'.objs.size fI cdv)
  refine wpAny_execs_cons (wpAny_Expr_any (hi := hint) (MethodCall_ (pl := pl) (nameX_B (cl := []) F cx.inK cx.read exc exB (by decide) ?_ hk l3 (by decide)) hcall))
  refine method_type F cx.inK (by kernel_rfl) (by decide +kernel) initv rfl ?_
  refine callWith_builtin rfl (evalArgs_plain (wpAny_items_cons (nameX_L (cl := []) F hself ?_ hk l1 (by decide))))
  refine wpAny_items_cons (nameX_L (cl := []) F htext (wpAny_items_nil ?_) hk l2 (by decide))
  obtain ⟨nm, q, F7, N, bs, hdct', sn, sub, ab, col, dd, k0, k1, k2, k3, k5, hC0⟩ := Y.cls
  refine exc_init (hfr _ _ (cx.inK _ _ hC0)) he0 rfl rfl (by simp) fun h₂ kp₂ he₂ => ?_
  have F₂ : Fr cx.H₀ h'.objs.size h₂ (fun y => List.lookup y ([(("self" : Str), Value.ref (s.heap.objs.size + 1)), (("text" : Str), v)] : List (Str × Value)).reverse) := ⟨F.ns.at' fun o e => kp₂ _ o (Ne.symm hne) e, fun b o e => kp₂ b o (fun q => ?_) (hfr b o e), F.above⟩
  · refine wpAny_execs_cons (plainObj_wpAny_Assign_Attribute (nameX_L (cl := []) F₂ htext (nameX_L (cl := []) F₂ hself ?_ hk l1 (by decide)) hk l2 (by decide)))
    have I : InstAt h₂ (s.heap.objs.size + 1) ⟨.ref cx.RF, none, .fields #[.ref h₁.objs.size, .none, .none, .none, .bool false, .none], #[]⟩ cx.RF none := ⟨he₂, rfl, rfl, trivial⟩
    refine set_plain (cx.inK.keeps F₂.keep) I seta ?_
    refine osa_exc (cx.inK.keeps F₂.keep) he₂ hc hm hdct ht fun h₃ tk dx kp₃ he₃ => ?_
    refine wpAny_execs_nil ?_
    refine ⟨rfl, k h₃ _ _ dx _ (fun b o e => ?_) (Heap.get?_none_of_le (Nat.le_succ _)) he₃⟩
    have nb : b ≠ s.heap.objs.size + 1 := Nat.ne_of_lt (Nat.lt_succ_of_lt (Heap.lt_size e))
    exact kp₃ b o nb (kp₂ b o nb (hk₁ b o (kp b o e)))
  · exact absurd q (Nat.ne_of_lt (Nat.lt_succ_of_lt (Heap.lt_size (hst b o e))))

-- the part M14
section
variable {M : Model} {A : Around} {E : Value → Shared → Prop} {env : Env}
variable {nm q : Str} {C N : Addr} {bs bm : List Value} {hdct : Bool} {sn : List Str} {sub : List Value} {ab : Bool} {col : Option Bool} {dd : Option Addr} {k0 k1 k2 k3 k5 : Option Value} {newId : String}
theorem raiseStmt_X {s : Shared} {x : Sem Value} {Q : Flow → Shared → Prop} (hbase : bm.contains (.type "BaseException") = true) (hh : A.handled = none)
    (h : wpAny M A x (fun v s₁ => ∃ e t dx, v = .ref e ∧ s₁.heap.get? C = some (excClassObj nm q C N bs bm hdct sn sub ab col dd k0 k1 k2 k3 k5 newId) ∧
      s₁.heap.get? e = some ⟨.ref C, some dx, .fields #[.ref t, .none, .none, .none, .bool false, .none], #[]⟩ ∧ E (.ref e) s₁) E s) :
    wpAny M A (raiseStmt env (some x) none) Q E s := by
  have hcB : (Value.ref C :: bm).contains (.type "BaseException") = true := by rw [List.contains_cons, hbase, Bool.or_true]
  unfold raiseStmt
  refine wpAny_bind (wpAny_mono h (fun v s₁ h₁ => ?_) fun _ _ x => x)
  obtain ⟨e, t, dx, rfl, hC, he, hE⟩ := h₁
  obtain ⟨hp, g, d, tk, os⟩ := s₁
  repeat (first | with_reducible refine wpAny_loadPart_at he ?_ | with_reducible refine wpAny_loadPart_at hC ?_ | (with_reducible refine wpAny_isSubtype_exc hC ?_; rw [hcB]) | wp_step)
  exact wpAny_raiseNew_none hh hE
end

section
variable {cx : Cx} {k : Nat} {sc : Scope}
/-- what the class RunFault is -/
structure RFIs (cx : Cx) : Prop where
  name : nsIn cx.K mainGlobals "RunFault" = some (some (.ref cx.RF))
  keep : keepIn cx.K (.ref cx.RF) = true
  call : RFCall cx
  cls : ∃ (nm q : Str) (F7 N : Addr) (bs : List Value) (hdct : Bool) (sn : List Str) (sub : List Value) (ab : Bool) (col : Option Bool) (dd : Option Addr) (k0 k1 k2 k3 k5 : Option Value),
    cx.K.lookup cx.RF = some (excClassObj nm q cx.RF N bs [.ref F7, .type "Exception", .type "BaseException", .type "object"] hdct sn sub ab col dd k0 k1 k2 k3 k5 "Exception.__new__")

theorem arm_Raise {x : Expr} {pos : Pos} {env : Env} : exec (.Raise (some x) none pos) env = (do standAt pos; raiseStmt env (some (do let v ← eval x env; standAt pos; pure v)) none) := by
  rw [arm_exec_Raise]; rfl

theorem Ss.raiseRF (Y : RFIs cx) {np n cp cpos pos t} (hx : sc.names.lookup ("RunFault" : Str) = some .globalImplicit) : Ss cx k sc (.Raise (some (.Call (.Name "RunFault" np) [.Constant (.str t) n cp] [] cpos)) none pos) (fun σ P => P.exc) := fun f hid m σ s P hf ok st h => by
  subst hf
  obtain ⟨nm, q, F7, N, bs, hdct', sn, sub, ab, col, dd, k0, k1, k2, k3, k5, hC0⟩ := Y.cls
  rw [arm_Raise]
  refine wpAny_bind (wpAny_standAt (raiseStmt_X (C := cx.RF) (bm := bmX F7) (by simp) ok.hh (wpAny_bind (wpAny_mono (Q := fun v s₁ => ∃ e t dx, v = .ref e ∧ s₁.heap.get? cx.RF = some (excClassObj nm q cx.RF N bs (bmX F7) hdct' sn sub ab col dd k0 k1 k2 k3 k5 "Exception.__new__") ∧
      s₁.heap.get? e = some ⟨.ref cx.RF, some dx, .fields #[.ref t, .none, .none, .none, .bool false, .none], #[]⟩ ∧ EvE cx f s P.exc (.ref e) s₁) ?_ (fun v s₁ h₁ => wpAny_bind (wpAny_standAt (wpAny_pure h₁))) fun _ _ x => x))))
  refine wpAny_Call_ofName (nameX_K (cl := []) st.fr cx.inK cx.read Y.name ?_ ok.hk hx (by decide))
  refine callWith_K (first := []) cx.inK Y.keep (wpAny_items_cons (wpAny_Constant_str (wpAny_items_nil ⟨cx.inK.keeps st.fr.keep, ?_⟩)))
  refine Y.call f.A _ _ _ _ (by have := ok.depth; omega) st.fr.keep (Nat.le_trans st.fr.above (Nat.le_of_lt st.fr.ns.lt)) fun h' tk e dx tup kp hn he => ?_
  refine ⟨e, tup, dx, rfl, kp _ _ (st.fr.keep _ _ (cx.inK _ _ hC0)), he, h, e, rfl, ⟨⟨m, st.fr.grownK kp⟩, Pres.of_keeps kp, hn, _, _, _, he, rfl, rfl, rfl, .inl rfl⟩, ⟨rfl, rfl, rfl⟩⟩
end

-- the part M15
inductive Ent : List DictEntry → List (Str × Value) → Prop
  | nil : Ent [] []
  | cons {h n t v es fs} : Ent es fs → Ent (⟨h, .str n t, v⟩ :: es) ((n, v) :: fs)
theorem isStr_str (n x : Str) (t : Tok) : (Value.str n t).isStr x = (n == x) := rfl
theorem Ent.get {x : Str} : ∀ {es : List DictEntry} {fs : List (Str × Value)}, Ent es fs → getL x es = some (fs.lookup x)
  | _, _, .nil => rfl
  | _, _, .cons (h := h) (n := n) (t := t) (v := v) (es := es) (fs := fs) r => by
    have ih := r.get (x := x)
    unfold getL at ih ⊢
    rw [List.lookup_cons]
    by_cases q : n = x
    · subst q
      rw [List.find?_cons_of_pos (by rw [isStr_str]; simp)]
      simp
    · have hb : (x == n) = false := beq_eq_false_iff_ne.mpr (Ne.symm q)
      rw [hb]
      rw [List.find?_cons_of_neg (by rw [isStr_str]; simpa using q), List.any_cons]
      exact ih
theorem Ent.put {x : Str} {hh : Int} {t' : Tok} {v' : Value} : ∀ {es : List DictEntry} {fs : List (Str × Value)}, Ent es fs → fs.lookup x = none → Ent (putL x hh (.str x t') v' es) (fs ++ [(x, v')])
  | _, _, .nil, _ => .cons .nil
  | _, _, .cons (h := h) (n := n) (t := t) (v := v) (es := es) (fs := fs) r, e => by
    rw [List.lookup_cons] at e
    unfold putL
    by_cases q : n = x
    · subst q; simp at e
    · have hb : (x == n) = false := beq_eq_false_iff_ne.mpr (Ne.symm q)
      rw [hb] at e
      rw [if_neg (by rw [isStr_str]; simpa using q)]
      exact .cons (r.put e)
theorem Ent.length : ∀ {es : List DictEntry} {fs : List (Str × Value)}, Ent es fs → es.length = fs.length
  | _, _, .nil => rfl
  | _, _, .cons r => by rw [List.length_cons, List.length_cons, r.length]

noncomputable def LimCall (cx : Cx) : Prop := ∀ (A : Around) (s : Shared) (v1 v2 v3 v4 : Value) (Q : Value → Shared → Prop) (E : Value → Shared → Prop), A.depth + 50 < 1000 → cx.H₀.StaysIn s.heap →
  (∀ h' tk x dx es n, s.heap.StaysIn h' → s.heap.get? x = none → s.heap.get? dx = none → h'.get? x = some (instObj cx.LCa dx) → h'.get? dx = some (dictOf es n) →
    getL "width" es = some (some v1) → getL "real_digits" es = some (some v2) → getL "double_digits" es = some (some v3) → getL "top_exponent" es = some (some v4) → Q (.ref x) { s with heap := h', toks := tk }) →
  wpAny (model cx.prog cx.w) A (call (.ref cx.LCa) [v1, v2, v3, v4]) Q E s

noncomputable abbrev setSelf (x : Str) (p p' p'' p''' : Pos) : Stmt := .Assign [.Attribute (.Name "self" p) x p'] (.Name x p'') p'''

section
variable {prog : Program} {w : World} {A : Around} {K : Frag} {C x dx L : Addr} {h₀ : Heap} {m : Str → Option Value}
/-- one statement self.name = name -/
theorem set_self {s : Shared} {es : List DictEntry} {n : Nat} {fs : List (Str × Value)} {name q : Str} {sc : Scope} {a : Addr} {cd v : Value} {p p' p'' p''' : Pos} {P : Flow → Shared → Prop} {E : Value → Shared → Prop} {rest : List Stmt}
    (F : Fr h₀ L s.heap m) (X₀ : K.In h₀) (N : News h₀ L s.heap [(x, instObj C dx), (dx, dictOf es n)]) (en : Ent es fs) (hl : fs.lookup name = none) (hz : fs.length < 100) (hx : dx ≠ x)
    (hs : findIn K (.ref C) "__setattr__" = some (some (.builtin "object.__setattr__"))) (hp : plainOver K C = true) (ht : takerIn K C name = some none) (hh : hasDictIn K C = true)
    (hself : m "self" = some (.ref x)) (hname : m name = some v) (hk : sc.kind = .function) (l1 : sc.names.lookup ("self" : Str) = some .local) (l2 : sc.names.lookup name = some .local) (hd : (name == ("__debug__" : Str)) = false)
    (k : ∀ h' tk es' n', Fr h₀ L h' m → News h₀ L h' [(x, instObj C dx), (dx, dictOf es' n')] → Ent es' (fs ++ [(name, v)]) → wpAny (model prog w) A (execs rest (envOf q sc L a cd)) P E { s with heap := h', toks := tk }) :
    wpAny (model prog w) A (execs (setSelf name p p' p'' p''' :: rest) (envOf q sc L a cd)) P E s := by
  refine wpAny_execs_cons (plainObj_wpAny_Assign_Attribute (nameX_L (cl := []) F hname (nameX_L (cl := []) F hself ?_ hk l1 (by decide)) hk l2 hd))
  refine set_dict (news' := [(x, instObj C dx), (dx, dictOf (putL name (PyData.keyHash w.params name) (.str name (s.toks + 1)) v es) (putN name es n))]) F X₀ N (InstAt.of_news N (.head _) (.tail _ (.head _))) rfl hs hp ht hh (by rw [en.get]; rfl) rfl
    (.tail (by exact fun e => hx e.symm) (.head (by simp))) (by rw [(en.put hl).length, List.length_append, List.length_singleton]; omega) fun h' F' N' => k h' _ _ _ F' N' (en.put hl)
end

theorem LimCall.of {cx : Cx} {fI : Addr} {iqual : Str} {iparams : Arguments} {iscope : Scope} {dV kV doc pm cdv ct oc : Value} {an od : Option Addr} {osl : Array (Option Value)} {p1a p1b p1c p1d p2a p2b p2c p2d p3a p3b p3c p3d p4a p4b p4c p4d p5a p5b p5c p5d p6a p6b p6c p6d p7a p7b p7c p7d p8a p8b p8c p8d : Pos} {d5 d6 d7 d8 : Value}
    (hm : makesIn cx.K cx.LCa = true) (hi : findIn cx.K (.ref cx.LCa) "__init__" = some (some (.ref fI))) (hf : typeIn cx.K (.ref fI) = some (.type "function"))
    (ho : cx.K.lookup fI = some ⟨oc, od, .func (fnOf "__init__" iqual iparams [setSelf "width" p1a p1b p1c p1d, setSelf "real_digits" p2a p2b p2c p2d, setSelf "double_digits" p3a p3b p3c p3d, setSelf "top_exponent" p4a p4b p4c p4d, setSelf "steps" p5a p5b p5c p5d, setSelf "continuations" p6a p6b p6c p6d, setSelf "columns" p7a p7b p7c p7d, setSelf "depth" p8a p8b p8c p8d] iscope dV kV doc pm an cdv ct), osl⟩)
    (hcd : codeIn cx.K cdv iqual = true)
    (hbind : ∀ (s : Shared) (self v1 v2 v3 v4 : Value), cx.K.In s.heap → BindsTo s (fnOf "__init__" iqual iparams [setSelf "width" p1a p1b p1c p1d, setSelf "real_digits" p2a p2b p2c p2d, setSelf "double_digits" p3a p3b p3c p3d, setSelf "top_exponent" p4a p4b p4c p4d, setSelf "steps" p5a p5b p5c p5d, setSelf "continuations" p6a p6b p6c p6d, setSelf "columns" p7a p7b p7c p7d, setSelf "depth" p8a p8b p8c p8d] iscope dV kV doc pm an cdv ct) ⟨[self, v1, v2, v3, v4], []⟩
      [("self", self), ("width", v1), ("real_digits", v2), ("double_digits", v3), ("top_exponent", v4), ("steps", d5), ("continuations", d6), ("columns", d7), ("depth", d8)])
    (hcell : ∀ x ∈ iscope.names, x.2 ≠ .cell) (hl : (["self", "width", "real_digits", "double_digits", "top_exponent", "steps", "continuations", "columns", "depth"] : List Str).all (fun n => decide (iscope.names.lookup n = some .local)) = true)
    (hco : iscope.isCoroutine = false) (hgen : iscope.isGenerator = false) (hk : iscope.kind = .function)
    (seta : findIn cx.K (.ref cx.LCa) "__setattr__" = some (some (.builtin "object.__setattr__"))) (hp : plainOver cx.K cx.LCa = true) (hh : hasDictIn cx.K cx.LCa = true)
    (ht : (["width", "real_digits", "double_digits", "top_exponent", "steps", "continuations", "columns", "depth"] : List Str).all (fun n => takerIn cx.K cx.LCa n == some none) = true) : LimCall cx := by
  intro A s v1 v2 v3 v4 Q E hd hst k
  have X : cx.K.In s.heap := cx.inK.keeps hst
  have hl' : ∀ n ∈ (["self", "width", "real_digits", "double_digits", "top_exponent", "steps", "continuations", "columns", "depth"] : List Str), iscope.names.lookup n = some .local := fun n h => of_decide_eq_true (List.all_eq_true.mp hl n h)
  have ht' : ∀ n ∈ (["width", "real_digits", "double_digits", "top_exponent", "steps", "continuations", "columns", "depth"] : List Str), takerIn cx.K cx.LCa n = some none := fun n h => beq_iff_eq.mp (List.all_eq_true.mp ht n h)
  obtain ⟨hh0, g, dr, tk0, os⟩ := s
  refine wpAny_call (make_core (makes_of X hm) (looks_findIn X hi) (fun self => bind_fn X self hf) (.inl rfl) ?_)
  have kp : ∀ b o, hh0.get? b = some o → ((hh0.push emptyDict).push (instObj cx.LCa hh0.objs.size)).get? b = some o := fun b o e => Heap.get?_push_of_some _ (Heap.get?_push_of_some _ e)
  have e1 : ((hh0.push emptyDict).push (instObj cx.LCa hh0.objs.size)).get? (hh0.objs.size + 1) = some (instObj cx.LCa hh0.objs.size) := by heap_get
  have e2 : ((hh0.push emptyDict).push (instObj cx.LCa hh0.objs.size)).get? hh0.objs.size = some (dictOf [] 0) := by heap_get
  have lim : ((hh0.push emptyDict).push (instObj cx.LCa hh0.objs.size)).NoLimit := cx.top.nolimit.keeps fun b o e => kp b o (hst b o e)
  have X' := X.keeps kp
  refine codeAny_call_def (by show A.depth + _ < recursionLimit; unfold recursionLimit; show A.depth + 1 < _; omega) (X' _ _ ho) rfl lim (codeRec_of X' hcd) rfl (hbind _ _ _ _ _ _ X') hcell (fun x hx => ?_) (fun h₁ hns hk₁ => ?_) hco hgen hk
  · refine hl' x.1 ?_
    simp only [List.mem_cons, List.mem_nil_iff, or_false] at hx
    rcases hx with rfl | rfl | rfl | rfl | rfl | rfl | rfl | rfl | rfl <;> simp
  · show wpAny _ _ (execs _ (envOf iqual iscope ((hh0.push emptyDict).push (instObj cx.LCa hh0.objs.size)).objs.size fI cdv)) _ _ _
    generalize hLL : ((hh0.push emptyDict).push (instObj cx.LCa hh0.objs.size)).objs.size = L
    have hL2 : L = hh0.objs.size + 2 := by rw [← hLL, Heap.size_push, Heap.size_push]
    have F : Fr hh0 L h₁ (fun y => List.lookup y ([(("self" : Str), Value.ref (hh0.objs.size + 1)), ("width", v1), ("real_digits", v2), ("double_digits", v3), ("top_exponent", v4), ("steps", d5), ("continuations", d6), ("columns", d7), ("depth", d8)] : List (Str × Value)).reverse) :=
      ⟨hLL ▸ hns, fun b o e => hk₁ b o (kp b o e), by rw [hL2]; exact Nat.le_add_right _ _⟩
    have N : News hh0 L h₁ [(hh0.objs.size + 1, instObj cx.LCa hh0.objs.size), (hh0.objs.size, dictOf [] 0)] := by
      intro p hp
      rcases List.mem_cons.mp hp with rfl | hp
      · exact ⟨hk₁ _ _ e1, by rw [hL2]; exact Nat.ne_of_lt (Nat.lt_succ_self _), Heap.get?_none_of_le (Nat.le_succ _)⟩
      · rw [List.mem_singleton.mp hp]
        exact ⟨hk₁ _ _ e2, by rw [hL2]; exact Nat.ne_of_lt (Nat.lt_succ_of_lt (Nat.lt_succ_self _)), Heap.get?_none_of_le (Nat.le_refl _)⟩
    have hx : hh0.objs.size ≠ hh0.objs.size + 1 := Nat.ne_of_lt (Nat.lt_succ_self _)
    clear hLL hns
    refine set_self F X N .nil rfl (by decide) hx seta hp (ht' _ (by simp)) hh rfl rfl hk (hl' _ (by simp)) (hl' _ (by simp)) (by decide) fun h1 t1 es1 n1 F N E1 => ?_
    refine set_self (s := ⟨h1, g, dr, t1, os⟩) F X N E1 rfl (by simp) hx seta hp (ht' _ (by simp)) hh rfl rfl hk (hl' _ (by simp)) (hl' _ (by simp)) (by decide) fun h2 t2 es2 n2 F N E2 => ?_
    refine set_self (s := ⟨h2, g, dr, t2, os⟩) F X N E2 rfl (by simp) hx seta hp (ht' _ (by simp)) hh rfl rfl hk (hl' _ (by simp)) (hl' _ (by simp)) (by decide) fun h3 t3 es3 n3 F N E3 => ?_
    refine set_self (s := ⟨h3, g, dr, t3, os⟩) F X N E3 rfl (by simp) hx seta hp (ht' _ (by simp)) hh rfl rfl hk (hl' _ (by simp)) (hl' _ (by simp)) (by decide) fun h4 t4 es4 n4 F N E4 => ?_
    refine set_self (s := ⟨h4, g, dr, t4, os⟩) F X N E4 rfl (by simp) hx seta hp (ht' _ (by simp)) hh rfl rfl hk (hl' _ (by simp)) (hl' _ (by simp)) (by decide) fun h5 t5 es5 n5 F N E5 => ?_
    refine set_self (s := ⟨h5, g, dr, t5, os⟩) F X N E5 rfl (by simp) hx seta hp (ht' _ (by simp)) hh rfl rfl hk (hl' _ (by simp)) (hl' _ (by simp)) (by decide) fun h6 t6 es6 n6 F N E6 => ?_
    refine set_self (s := ⟨h6, g, dr, t6, os⟩) F X N E6 rfl (by simp) hx seta hp (ht' _ (by simp)) hh rfl rfl hk (hl' _ (by simp)) (hl' _ (by simp)) (by decide) fun h7 t7 es7 n7 F N E7 => ?_
    refine set_self (s := ⟨h7, g, dr, t7, os⟩) F X N E7 rfl (by simp) hx seta hp (ht' _ (by simp)) hh rfl rfl hk (hl' _ (by simp)) (hl' _ (by simp)) (by decide) fun h8 t8 es8 n8 F N E8 => ?_
    refine wpAny_execs_nil ⟨rfl, k h8 t8 _ _ es8 n8 F.keep (Heap.get?_none_of_le (Nat.le_succ _)) (Heap.get?_none_of_le (Nat.le_refl _)) (N _ (.head _)).1 (N _ (.tail _ (.head _))).1 ?_ ?_ ?_ ?_⟩ <;> (rw [E8.get]; rfl)

-- the part M16
section
variable {cx : Cx} {k : Nat} {sc : Scope}

structure LimIs (cx : Cx) : Prop where
  name : nsIn cx.K mainGlobals "Limits" = some (some (.ref cx.LCa))
  keep : keepIn cx.K (.ref cx.LCa) = true
  call : LimCall cx
  pg : ∀ n, plainGet cx.K cx.LCa n = true
  hd : hasDictIn cx.K cx.LCa = true
  fnd : ∀ n ∈ (["width", "real_digits", "double_digits", "top_exponent"] : List Str), findIn cx.K (.ref cx.LCa) n = some none

noncomputable def attrP (n : Str) : V → (V → Prop) → Prop
  | .lim w r d t, Q => (n = "width" ∧ Q (I w)) ∨ (n = "real_digits" ∧ Q (I r)) ∨ (n = "double_digits" ∧ Q (I d)) ∨ (n = "top_exponent" ∧ Q (I t))
  | _, _ => False
noncomputable def SE.attr (n : Str) (a : SE) : SE := fun σ Q X => a σ (fun x => attrP n x Q) X
theorem Ev.attr {x n : Str} {np pos a} (Y : LimIs cx) (ha : Ev cx k sc (.Name x np) a) : Ev cx k sc (.Attribute (.Name x np) n pos) (SE.attr n a) := fun f hid m σ s Q X hs ok st h =>
  Attribute_name (ha.go hs ok st h (.refl _ _) (.refl _) fun v d s₁ hd r st₁ _ p₁ z₁ => by
    unfold attrP at hd
    split at hd
    · rename_i w r' d t
      obtain ⟨a, dx, sl, es, nn, rfl, h1, h2, h3⟩ := r
      have I : InstAt s₁.heap a ⟨.ref cx.LCa, some dx, .plain, sl⟩ cx.LCa (some (dictOf es nn)) := ⟨of_hideAll _ h1, rfl, rfl, of_hideAll _ h2⟩
      obtain ⟨⟨k1, h31⟩, ⟨k2, h32⟩, ⟨k3, h33⟩, k4, h34⟩ := h3
      have go : ∀ {i : Int} {tk : Tok}, n ∈ (["width", "real_digits", "double_digits", "top_exponent"] : List Str) → getL n es = some (some (.int i tk)) → Q (.d (.int i)) → wpAny (model cx.prog cx.w) f.A (getAttr (.ref a) n true) (EvQ cx f hid m s Q) (EvE cx f s X) s₁ := fun {i tk} hn hl hq =>
        get_own st₁.fr cx.inK I (Y.pg n) Y.hd (Y.fnd n hn) rfl hl rfl (EvQ.mk hq (rep_int _ _) (s₁ := { s₁ with toks := _ }) st₁ p₁ ⟨z₁.1, z₁.2, z₁.3⟩)
      rcases hd with ⟨rfl, hq⟩ | ⟨rfl, hq⟩ | ⟨rfl, hq⟩ | ⟨rfl, hq⟩
      · exact go (by simp) h31 hq
      · exact go (by simp) h32 hq
      · exact go (by simp) h33 hq
      · exact go (by simp) h34 hq
    · exact hd.elim)

noncomputable def limP : List V → (V → Prop) → Prop
  | [.d (.int a), .d (.int b), .d (.int c), .d (.int e)], Q => Q (.lim a b c e)
  | _, _ => False
theorem Ev.lim {np e es pos l} (Y : LimIs cx) (hl : Evs cx k sc (e :: es) l) (hx : sc.names.lookup ("Limits" : Str) = some .globalImplicit)
    (hst : ∀ env, starEach (e :: es) env = (false, eval e env) :: starEach es env) (hp : ∀ env, (backTo pos (starEach es env)).any (·.1) = false) :
    Ev cx k sc (.Call (.Name "Limits" np) (e :: es) [] pos) (SE.prim limP l) := fun f hid m σ s Q X hs ok st h => by
  subst hs
  refine wpAny_Call_ofName (nameX_K (cl := []) st.fr cx.inK cx.read Y.name ?_ ok.hk hx (by decide))
  refine callWith_K (first := []) cx.inK Y.keep (wpAny_mono (hl f hid m σ s _ X pos rfl ok st h) (fun vs s₁ ⟨n, ds, g1, g2, g3, g4, g5⟩ => ⟨cx.inK.keeps g3.fr.keep, ?_⟩) fun _ _ x => x) (hst _) (hp _)
  have g1 : limP ds Q := g1
  unfold limP at g1
  split at g1
  · rename_i a b c d _
    obtain ⟨v1, vs, rfl⟩ : ∃ v vs', vs = v :: vs' := by cases vs with | nil => exact g2.elim | cons v vs => exact ⟨v, vs, rfl⟩
    obtain ⟨q1, g2⟩ := g2
    obtain ⟨v2, vs, rfl⟩ : ∃ v vs', vs = v :: vs' := by cases vs with | nil => exact g2.elim | cons v vs => exact ⟨v, vs, rfl⟩
    obtain ⟨q2, g2⟩ := g2
    obtain ⟨v3, vs, rfl⟩ : ∃ v vs', vs = v :: vs' := by cases vs with | nil => exact g2.elim | cons v vs => exact ⟨v, vs, rfl⟩
    obtain ⟨q3, g2⟩ := g2
    obtain ⟨v4, rfl, q4⟩ := repL1 g2
    obtain ⟨t1, rfl⟩ := int_rep q1; obtain ⟨t2, rfl⟩ := int_rep q2; obtain ⟨t3, rfl⟩ := int_rep q3; obtain ⟨t4, rfl⟩ := int_rep q4
    refine Y.call f.A s₁ _ _ _ _ _ _ (by have := ok.depth; omega) g3.fr.keep fun h' tk x dx es n kp hx hdx e1 e2 w1 w2 w3 w4 => ?_
    have p := Pres.of_keeps (f := f) kp
    have nh : ∀ b, s₁.heap.get? b = Option.none → b ∉ hid := fun b hb hm => by obtain ⟨o, e⟩ := g3.old b hm; rw [hb] at e; cases e
    exact ⟨.lim a b c d, g1, ⟨x, dx, #[], es, n, rfl, hideAll_get _ e1 (nh _ hx), hideAll_get _ e2 (nh _ hdx), ⟨_, w1⟩, ⟨_, w2⟩, ⟨_, w3⟩, _, w4⟩, g3.fr.grownK kp, g4.trans p, g5.trans ⟨rfl, rfl, rfl⟩⟩
  · exact g1.elim

/-! a slice from the start -/
theorem readsAll_take {h : Heap} : ∀ {vs : List Value} {xs : List PyData} {as : List Addr}, ReadsAll h vs xs as → ∀ n : Nat, ∃ as', ReadsAll h (vs.take n) (xs.take n) as'
  | _, _, _, _, 0 => ⟨_, .nil⟩
  | _, _, _, .nil, _ + 1 => ⟨_, .nil⟩
  | _, _, _, .cons r rs, n + 1 => let ⟨_, q⟩ := readsAll_take rs n; ⟨_, .cons r q⟩
noncomputable def takeP (n : Nat) : V → (V → Prop) → Prop
  | .d (.list xs), Q => xs.length ≤ 1000 ∧ Q (.d (.list (xs.take n)))
  | _, _ => False
noncomputable def SE.take (n : Nat) (a : SE) : SE := fun σ Q X => a σ (fun x => takeP n x Q) X
theorem Ev.take {x np c n cp sp pos a} (ha : Ev cx k sc (.Name x np) a) (hs : ∀ o i, subscripted (.Slice Option.none (some (.Constant (.int (Int.ofNat c)) n cp)) Option.none sp) false o i = operate [i, o] (getItem o i)) :
    Ev cx k sc (.Subscript (.Name x np) (.Slice Option.none (some (.Constant (.int (Int.ofNat c)) n cp)) Option.none sp) pos) (SE.take c a) := fun f hid m σ s Q X hs' ok st h =>
  Subscript_ (ha.go hs' ok st h (.refl _ _) (.refl _) fun v d s₁ hd r st₁ _ p₁ z₁ => by
    unfold takeP at hd
    split at hd
    · rename_i xs
      obtain ⟨hlen, hd⟩ := hd
      obtain ⟨as, r⟩ := r
      cases r with
      | list e1 e2 e3 e4 =>
        rename_i a o vs nn as
        have hl : s₁.heap.IsList a vs := ⟨_, of_hideAll _ e1, e2, _, e3⟩
        have hvl := readsAll_len e4
        rw [Array.length_toList] at hvl
        refine wpAny_Slice (wpAny_evalPart_none (wpAny_evalPart_some (wpAny_Constant_int (wpAny_evalPart_none ?_))))
        refine subscriptTail_ops (Heap.IsList.typeIs (s := { s₁ with toks := s₁.toks + 1, heap := s₁.heap.push { cls := .type "slice", data := .fields #[.none, .int (Int.ofNat c) s₁.toks, .none] } }) (hl.push _)) list_getitem_lookup
          (wpAny_getItem_list_slice (hl.push _) (Heap.IsSliceOf.new ..) .none (.int _ _) .none (by simp) ?_ (by rw [hvl, sizeLine_eq]; omega)) (hs _ _) (fun _ => rfl)
        obtain ⟨st₂, p₂⟩ := st₁.push ok { cls := .type "slice", data := .fields #[.none, .int (Int.ofNat c) s₁.toks, .none] }
        obtain ⟨st₃, p₃⟩ := st₂.push ok { cls := .type "list", data := .seq (slicePick vs Option.none (some (Int.ofNat c)) Option.none) }
        have hpick : slicePick vs Option.none (some (Int.ofNat c)) Option.none = (vs.toList.take c).toArray := slicePick_upto' vs c
        obtain ⟨as', r'⟩ := readsAll_take e4 c
        refine EvQ.mk hd ?_ st₃ (p₁.trans (p₂.trans p₃)) (z₁.trans ⟨rfl, rfl, rfl⟩)
        refine ⟨_, .list (as := as') (new_vis st₂ _ rfl) rfl rfl ?_⟩
        rw [hpick]
        exact ReadsAll.keeps (hideAll_mono (fun b o e _ => Heap.get?_push_of_some _ (Heap.get?_push_of_some _ e)) fun _ _ _ hb => hb) r'
    · exact hd.elim)
end

-- the part M17
section
variable {cx : Cx} {k : Nat} {sc : Scope}

noncomputable abbrev PE := Str × Nat × Pos × Expr
noncomputable def pairsOf (ps : List PE) (env : Env) (pos : Pos) : List (Sem Value × Sem Value) := ps.map fun p => (eval (.Constant (.str p.1) p.2.1 p.2.2.1) env, do let x ← eval p.2.2.2 env; standAt pos; pure x)
noncomputable def KeysS : List (Value × Value) → List Str → Prop
  | [], [] => True
  | v :: vs, x :: xs => (∃ t, v.1 = .str x t) ∧ KeysS vs xs
  | _, _ => False
noncomputable def DvQ (cx : Cx) (f : Fx) (hid : List Addr) (m : Str → Option Value) (σ : Sg) (s : Shared) (xs : List Str) (Q : List V → Prop) : List (Value × Value) → Shared → Prop :=
  fun vs s' => KeysS vs xs ∧ ∃ ds, Q ds ∧ RepL cx.LC hid s'.heap ds (vs.map (·.2)) ∧ St cx f hid s'.heap m σ ∧ Pres f s.heap s'.heap ∧ Same s s'
noncomputable def Evd (cx : Cx) (k : Nat) (sc : Scope) (ps : List PE) (T : LE) : Prop :=
  ∀ (f : Fx) (hid : List Addr) (m : Str → Option Value) (σ : Sg) (s : Shared) (Q : List V → Prop) (X : Prop) (pos : Pos), f.sc = sc → FxOk cx f hid k → St cx f hid s.heap m σ → T σ Q X →
    wpAny (model cx.prog cx.w) f.A (evalPairs (pairsOf ps f.env pos)) (DvQ cx f hid m σ s (ps.map (·.1)) Q) (EvE cx f s X) s
theorem Evd.nil : Evd cx k sc [] (fun _ Q _ => Q []) := fun f hid m σ s Q X pos hs ok st h => evalPairs_nil ⟨trivial, [], h, trivial, st, .refl _ _, .refl _⟩
theorem Evd.cons {x n p e ps a b} (ha : Ev cx k sc e a) (hb : Evd cx k sc ps b) : Evd cx k sc ((x, n, p, e) :: ps) (LE.cons a b) := fun f hid m σ s Q X pos hs ok st h =>
  evalPairs_cons (wpAny_Constant_str (wpAny_bind (ha.go (s := { s with toks := s.toks + 1 }) (s₀ := s) hs ok st h (.refl _ _) ⟨rfl, rfl, rfl⟩ fun v y s₁ hy ry st₁ _ p₁ z₁ =>
    wpAny_bind (wpAny_standAt (wpAny_pure (wpAny_mono (hb f hid m σ s₁ _ X pos hs ok st₁ hy) (fun vs s₂ ⟨h0, ds, h1, h2, h3, h4, h5⟩ => ⟨⟨⟨_, rfl⟩, h0⟩, y :: ds, h1, ⟨ry.next ok h4, h2⟩, h3, p₁.trans h4, z₁.trans h5⟩)
      fun _ _ x => x.back st₁.fr p₁ z₁ id))))))

noncomputable def allB : List V → (List Bool → Prop) → Prop
  | [], Q => Q []
  | .d (.bool x) :: r, Q => allB r fun xs => Q (x :: xs)
  | _ :: _, _ => False
theorem allB_keys {LC : RC} {hid : List Addr} {h : Heap} : ∀ {ds : List V} {vs : List (Value × Value)} {xs : List Str} {Q : List Bool → Prop}, RepL LC hid h ds (vs.map (·.2)) → KeysS vs xs → allB ds Q → ∃ bs, Q bs ∧ allStrKeys vs = true ∧ strPairs vs = (xs.zip bs).map fun p => (p.1, Value.bool p.2)
  | [], [], [], _, _, _, q => ⟨[], q, rfl, rfl⟩
  | .d (.bool x) :: ds, v :: vs, y :: xs, Q, r, ⟨⟨t, e⟩, ks⟩, q => by
    obtain ⟨r1, r2⟩ := r
    obtain ⟨bs, h1, h2, h3⟩ := allB_keys r2 ks q
    have hv := bool_rep r1
    obtain ⟨v1, v2⟩ := v
    dsimp only at hv e
    subst hv e
    exact ⟨x :: bs, h1, h2, by rw [strPairs, h3]; rfl⟩
  | [], _ :: _, _, _, r, _, _ => r.elim
  | [], [], _ :: _, _, _, ks, _ => ks.elim
  | .d (.bool x) :: _, [], _, _, r, _, _ => r.elim
  | .d (.bool x) :: _, _ :: _, [], _, _, ks, _ => ks.elim

noncomputable def SE.dict (xs : List Str) (l : LE) : SE := fun σ Q X => l σ (fun ds => allB ds fun bs => Q (.rows (xs.zip bs))) X
theorem Ev.dict {keys values pos l} {ps : List PE} (hl : Evd cx k sc ps l) (hn : (ps.map (·.1)).Nodup) (h0 : ps ≠ []) (h15 : ps.length ≤ 15)
    (hshape : ∀ env, (evalEachOpt keys env).zip ((evalEach values env).map fun v => do let x ← v; standAt pos; pure x) = (pairsOf ps env pos).map fun p => (some p.1, p.2)) :
    Ev cx k sc (.Dict keys values pos) (SE.dict (ps.map (·.1)) l) := fun f hid m σ s Q X hs ok st h => by
  have kp : ∀ b o, s.heap.get? b = some o → (s.heap.push { cls := .type "dict", data := .dict #[] }).get? b = some o := fun b o e => Heap.get?_push_of_some _ e
  have hI : s.heap.get? s.heap.objs.size = Option.none := Heap.get?_none_of_le (Nat.le_refl _)
  have hI' : (s.heap.push { cls := .type "dict", data := .dict #[] }).get? s.heap.objs.size = some { cls := .type "dict", data := .dict #[] } := Heap.get?_push_size _ rfl
  have hI0 : cx.H₀.get? s.heap.objs.size = Option.none := by
    cases q : cx.H₀.get? s.heap.objs.size with
    | none => rfl
    | some o => rw [st.fr.keep _ o q] at hI; cases hI
  have ok' := ok.hide hI0
  have st' := st.hide hI hI' kp
  obtain ⟨nL, nO⟩ := not_frame ok st hI
  refine wpAny_Dict_pairs (knd := PySem.strKind cx.prog cx.w) (hshape f.env) (by simpa [pairsOf] using h0) (by simpa [pairsOf] using h15) ?_
  refine wpAny_mono (hl f (s.heap.objs.size :: hid) m σ _ _ X pos hs ok' st' h) (fun vs s₁ ⟨g1, ds, g2, g3, g4, g5, g6⟩ => ?_) fun _ _ x => EvE.back (s := s) (s₁ := { s with heap := s.heap.push { cls := .type "dict", data := .dict #[] } }) (st.fr.grownK kp) (Pres.of_keeps kp) ⟨rfl, rfl, rfl⟩ id x
  obtain ⟨bs, w1, w2, w3⟩ := allB_keys g3 g1 g2
  have hd : s₁.heap.DictOf (PySem.strKind cx.prog cx.w) s.heap.objs.size [] := by
    obtain ⟨o, es, ep, ho, r⟩ := Heap.DictOf.new (knd := PySem.strKind cx.prog cx.w) s.heap
    exact ⟨o, es, ep, (g5 _ o ho nL).1 nO, r⟩
  refine display_done_str w2 ?_ hd fun h' hm hsb => ?_
  · rw [w3, List.map_map]
    have e : ∀ (l : List Str) (bs : List Bool), List.map ((fun x : Str × Value => x.1) ∘ fun p : Str × Bool => (p.1, Value.bool p.2)) (l.zip bs) = l.take bs.length := fun l => by
      induction l with
      | nil => intro bs; simp
      | cons a l ih => intro bs; cases bs with
        | nil => simp
        | cons b bs => rw [List.zip_cons_cons, List.map_cons, ih, List.length_cons, List.take_succ_cons]; rfl
    rw [e]
    exact hn.sublist (List.take_sublist _ _)
  · have hmono : ∀ b o, (hideAll s₁.heap (s.heap.objs.size :: hid)).get? b = some o → (hideAll h' hid).get? b = some o := hideAll_mono (fun b o e hb => (hsb.2 b fun q => hb (q ▸ .head _)).trans e) fun b o e hb hm => hb (.tail _ hm)
    have g5' : Pres f s.heap h' := fun b o e n => by
      have nb : b ≠ s.heap.objs.size := fun q => by rw [q, hI] at e; cases e
      obtain ⟨q1, sl, q2⟩ := g5 b o (kp b o e) n
      exact ⟨fun hb => (hsb.2 b nb).trans (q1 hb), sl, (hsb.2 b nb).trans q2⟩
    refine ⟨.rows _, w1, ⟨_, rfl, ?_, ?_⟩, ?_, g5', ⟨g6.1, g6.2, g6.3⟩⟩
    · have := cx.smod
      have h2 := Nat.le_trans st.fr.above (Nat.le_of_lt st.fr.ns.lt)
      exact beq_eq_false_iff_ne.mpr (Nat.ne_of_gt (Nat.lt_of_lt_of_le this h2))
    · rw [w3] at hm
      obtain ⟨o, es, ep, ho, r⟩ := hm
      exact ⟨o, es, ep, hideAll_get _ ho (fun hm => by obtain ⟨o', e⟩ := st.old _ hm; rw [hI] at e; cases e), r⟩
    · refine ⟨g4.fr.ns.at' fun o e => (hsb.2 _ (Ne.symm nL)).trans e, fun b o e => (hsb.2 b fun q => by rw [q, hI0] at e; cases e).trans (g4.fr.keep b o e), g4.fr.above⟩
end

-- the part M18
section
variable {cx : Cx} {k : Nat} {sc : Scope}

noncomputable def XE.try (b : XE) : XE := fun σ P => b σ ⟨P.next, P.ret, P.brk, P.cont, P.ret (.d (.list []))⟩
theorem Ss.tryRF (Y : RFIs cx) {body np lp rp hp pos B} (hb : SL cx k sc body B) (hx : sc.names.lookup ("RunFault" : Str) = some .globalImplicit) :
    Ss cx k sc (.Try body [.ExceptHandler (some (.Name "RunFault" np)) Option.none [.Return (some (.List [] lp)) rp] hp] [] [] pos) (XE.try B) := fun f hid m σ s P hf ok st h => by
  refine wpAny_Try_except (wpAny_mono (hb f hid m σ s _ hf ok st h) (fun fl s₁ ⟨p, z, q⟩ => ?_) fun e s' x => ?_)
  · cases fl with
    | next => exact wpAny_execs_nil ⟨p, z, q⟩
    | ret v => exact ⟨p, z, q⟩
    | brk => exact ⟨p, z, q⟩
    | cont => exact ⟨p, z, q⟩
  · subst hf
    obtain ⟨hX, a, rfl, i, z⟩ := x
    obtain ⟨nm, q, F7, N, bs, hdct', sn, sub, ab, col, dd, k0, k1, k2, k3, k5, hC0⟩ := Y.cls
    refine note_ok ok st i rfl fun h₁ t₁ => ?_
    refine setFlight_ok (s := { s' with heap := h₁ }) (fr := Option.none) ok st t₁ fun h₂ t₂ => ?_
    obtain ⟨⟨m₂, F₂⟩, p₂, n₂, oe, vs, a0, T, oT, ts, y1, y2, y3, y4, rest₂⟩ := id t₂
    refine wpAny_handleBy_cons (codeAny_handlers_test (nameX_K (s := { s' with heap := h₂ }) (cl := []) F₂ cx.inK cx.read Y.name ?_ ok.hk hx (by decide))) (by intro q; cases q)
    refine wpAny_excMatches_sub_self (bm := bmX F7) (F₂.keep _ _ (cx.inK _ _ hC0)) y1 y2 (by simp) (codeAny_handlers_suite ?_)
    refine setFlight_ok (s := { s' with heap := h₂ }) (fr := Option.none) ok st t₂ fun h₃ t₃ => ?_
    obtain ⟨⟨m₃, F₃⟩, p₃, _⟩ := t₃
    have st₃ : St cx f hid h₃ m₃ (fun _ => Option.none) := st.move ok p₃ F₃ fun _ _ q => by cases q
    refine wpAny_execs_cons (wpAny_Return_some (wpAny_List (wpAny_items_nil ⟨by simp, ?_⟩)))
    obtain ⟨st', p'⟩ := st₃.push ok { cls := .type "list", data := .seq (#[] : Array Value) }
    refine ⟨p₃.trans p', z.trans ⟨rfl, rfl, rfl⟩, .d (.list []), m₃, _, st', ⟨_, .list (as := []) (new_vis st₃ _ rfl) rfl rfl ?_⟩, hX⟩
    exact .nil
end

-- the part M19
section
variable {cx : Cx} {k : Nat} {sc : Scope}

/-- an object that no one sees is changed -/
theorem St.touch {f : Fx} {hid : List Addr} {h h' : Heap} {m : Str → Option Value} {σ : Sg} {a : Addr} (ok : FxOk cx f hid k) (st : St cx f hid h m σ) (ha : a ∈ hid) (nL : a ≠ f.L) (nO : a ∉ f.of) (q : ∀ b o, b ≠ a → h.get? b = some o → h'.get? b = some o) (hi : ∃ o, h'.get? a = some o) :
    St cx f hid h' m σ := by
  have v : ∀ b o, (hideAll h hid).get? b = some o → (hideAll h' hid).get? b = some o := hideAll_mono (fun b o e hb => q b o (fun z => hb (z ▸ ha)) e) fun b _ _ hb => hb
  refine ⟨⟨st.fr.ns.at' fun o e => q _ o (Ne.symm nL) e, fun b o e => q b o (fun z => by rw [z, ok.h0 a ha] at e; cases e) (st.fr.keep b o e), st.fr.above⟩, fun x d e => ?_, funFrames_pres (fun b hb o e => ⟨o.slots, q b o (fun z => nO (z ▸ hb)) e⟩) st.frames, fun b hb => ?_⟩
  · obtain ⟨w, h1, h2⟩ := st.env x d e
    exact ⟨w, h1, h2.mono v⟩
  · by_cases z : b = a
    · subst z; exact hi
    · obtain ⟨o, e⟩ := st.old b hb; exact ⟨o, q b o z e⟩

noncomputable def StrsAre : List Value → List Str → Prop
  | [], [] => True
  | v :: vs, x :: xs => (∃ t, v = .str x t) ∧ StrsAre vs xs
  | _, _ => False
theorem StrsAre.snoc {x : Str} {t : Tok} : ∀ {vs : List Value} {xs : List Str}, StrsAre vs xs → StrsAre (vs ++ [.str x t]) (xs ++ [x])
  | [], [], _ => ⟨⟨t, rfl⟩, trivial⟩
  | _ :: _, _ :: _, ⟨h, r⟩ => ⟨h, r.snoc⟩
theorem StrsAre.reads {h : Heap} : ∀ {vs : List Value} {xs : List Str}, StrsAre vs xs → ReadsAll h vs (xs.map PyData.str) (vs.flatMap fun _ => [])
  | [], [], _ => .nil
  | v :: vs, x :: xs, ⟨⟨t, e⟩, r⟩ => by
    subst e
    exact .cons (.str x t) r.reads
theorem StrsAre.length : ∀ {vs : List Value} {xs : List Str}, StrsAre vs xs → vs.length = xs.length
  | [], [], _ => rfl
  | _ :: _, _ :: _, ⟨_, r⟩ => congrArg (· + 1) r.length

noncomputable def textsP (tx ii row : Str) (ad : Addr) (B : XE) : List Int → List Str → Sg → (Sg → Prop) → Prop
  | [], acc, σ, K => K (upd σ tx (.d (.list (acc.map .str))))
  | c :: cs, acc, σ, K => B (upd σ ii (I c)) ⟨fun τ => ∃ r, τ row = some (S r) ∧ τ tx = some (.adr ad) ∧ textsP tx ii row ad B cs (acc ++ [r]) τ K, fun _ => False, fun _ => False, fun _ => False, False⟩
noncomputable def XE.texts (tx ii row : Str) (a : SE) (B R : XE) : XE := fun σ P => ∀ ad, a (upd σ tx (.adr ad)) (fun d => ∃ cs, cs.length ≤ 100 ∧ d = .d (.tuple (cs.map PyData.int)) ∧ textsP tx ii row ad B cs [] (upd σ tx (.adr ad)) (fun τ => R τ P)) P.exc

/-- row is appended to texts -/
theorem append_ok {tx row : Str} {tp ap rp cp ep : Pos} {f : Fx} {hid : List Addr} {m : Str → Option Value} {σ : Sg} {s : Shared} {ad : Addr} {its : Array Value} {r : Str} {Q : Flow → Shared → Prop} {E : Value → Shared → Prop} (hf : f.sc = sc) (ok : FxOk cx f hid k)
    (st : St cx f hid s.heap m σ) (ht : σ tx = some (.adr ad)) (hr : σ row = some (S r)) (hl : PlainL s.heap ad its) (hsz : its.size ≤ 1000) (l1 : sc.names.lookup tx = some .local) (l2 : sc.names.lookup row = some .local) (d1 : (tx == ("__debug__" : Str)) = false) (d2 : (row == ("__debug__" : Str)) = false) (hline : (ap.endLine == cp.line) = true)
    (K : ∀ h' t, PlainL h' ad (its.push (.str r t)) → Heap.SameBut ad s.heap h' → Q .next { s with heap := h' }) :
    wpAny (model cx.prog cx.w) f.A (exec (.Expr (.Call (.Attribute (.Name tx tp) "append" ap) [.Name row rp] [] cp) ep) f.env) Q E s := by
  subst hf
  obtain ⟨v1, hv1, e1⟩ := st.env tx _ ht
  obtain ⟨v2, hv2, e2⟩ := st.env row _ hr
  obtain ⟨t, rfl⟩ := str_rep e2
  have e1 : v1 = .ref ad := e1
  subst e1
  have hint : interactive f.env = false := by unfold interactive; show (f.sc.kind == .module && _) = false; rw [ok.hk]; rfl
  refine wpAny_Expr_any (hi := hint) (wpAny_Call_append rfl rfl hline rfl (nameX_L (cl := []) st.fr hv1 ⟨ad, its, rfl, hl, nameX_L (cl := []) st.fr hv2 (list_append_plainL hl (fun h' a b => K h' t a b) (by rw [sizeLine_eq]; omega)) ok.hk l2 d2⟩ ok.hk l1 d1))

theorem SL.texts {tx ii row : Str} {xp lp ap0 ip rp0 tp ap rp cp ep : Pos} {iter : Expr} {s1 s2 : Stmt} {rest : List Stmt} {a : SE} {B1 B2 R : XE} (hi : Ev cx k sc iter a) (h1 : Ss cx k sc s1 B1) (h2 : Ss cx k sc s2 B2) (hR : SL cx k sc rest R)
    (l1 : sc.names.lookup tx = some .local) (l2 : sc.names.lookup row = some .local) (l3 : sc.names.lookup ii = some .local) (d1 : (tx == ("__debug__" : Str)) = false) (d2 : (row == ("__debug__" : Str)) = false) (hline : (ap.endLine == cp.line) = true) (hti : tx ≠ ii)
    (hs : ∀ env l, swapsWith (.List [] lp) (some (.Name tx xp)) l env = pure false) (hs2 : ∀ env x, foldedSetIterable iter env x = pure x) :
    SL cx k sc (.Assign [.Name tx xp] (.List [] lp) ap0 :: .For (.Name ii ip) iter [s1, s2, .Expr (.Call (.Attribute (.Name tx tp) "append" ap) [.Name row rp] [] cp) ep] [] rp0 :: rest) (XE.texts tx ii row a (XE.seq B1 B2) R) := fun f hid m σ s P hf ok st h => by
  subst hf
  have hI : s.heap.get? s.heap.objs.size = Option.none := Heap.get?_none_of_le (Nat.le_refl _)
  obtain ⟨nL, nO⟩ := not_frame ok st hI
  have hI0 : cx.H₀.get? s.heap.objs.size = Option.none := by
    cases q : cx.H₀.get? s.heap.objs.size with
    | none => rfl
    | some o => rw [st.fr.keep _ o q] at hI; cases hI
  have ok1 := ok.hide hI0
  generalize hAD : s.heap.objs.size = ad at *
  -- texts = []
  refine wpAny_execs_cons (wpAny_Assign_Name (wpAny_List (wpAny_items_nil ⟨by simp, ?_⟩)) (hs _ _))
  rw [hAD]
  have kp0 : ∀ b o, s.heap.get? b = some o → (s.heap.push { cls := .type "list", data := .seq (#[] : Array Value) }).get? b = some o := fun b o e => Heap.get?_push_of_some _ e
  have hI' : (s.heap.push { cls := .type "list", data := .seq (#[] : Array Value) }).get? ad = some { cls := .type "list", data := .seq (#[] : Array Value) } := hAD ▸ Heap.get?_push_size _ rfl
  have st0 : St cx f (ad :: hid) (s.heap.push { cls := .type "list", data := .seq (#[] : Array Value) }) m σ := st.hide hI hI' kp0
  refine store_ok (s := { s with heap := s.heap.push { cls := .type "list", data := .seq (#[] : Array Value) } }) (d := .adr ad) ok1 st0 rfl l1 fun m1 s1' st1 p1 z1 => ?_
  have hl1 : PlainL s1'.heap ad #[] := ⟨_, _, (p1 ad _ hI' nL).1 nO, rfl, rfl, rfl⟩
  have P0 : Pres f s.heap s1'.heap := (Pres.of_keeps kp0).trans p1
  have Z0 : Same s s1' := ⟨z1.1, z1.2, z1.3⟩
  -- the loop
  refine wpAny_execs_cons (wpAny_For (hi.go rfl ok1 st1 (h ad) P0 Z0 fun v d s₂ hd r st₂ q₂ p₂ z₂ => ?_) (hs2 _))
  obtain ⟨cs, hc, rfl, hT⟩ := hd
  have hl2 : PlainL s₂.heap ad #[] := by
    obtain ⟨o, n, e, w⟩ := hl1
    exact ⟨o, n, (q₂ ad o e nL).1 nO, w⟩
  obtain ⟨as, r⟩ := r
  cases r with
  | tuple e1 e2 e3 e4 =>
    rename_i a0 o vs0 n0
    have hL : s₂.heap.IsTuple a0 vs0 := ⟨_, of_hideAll _ e1, e2, _, e3⟩
    have hlt := Heap.lt_size (of_hideAll _ e1)
    have hlen := readsAll_len e4
    rw [Array.length_toList, List.length_map] at hlen
    refine wpAny_pyIter_tuple hL ?_
    have hJ : s₂.heap.get? s₂.heap.objs.size = Option.none := Heap.get?_none_of_le (Nat.le_refl _)
    obtain ⟨nLI, nOI⟩ := not_frame ok1 st₂ hJ
    have hJ0 : cx.H₀.get? s₂.heap.objs.size = Option.none := by
      cases q : cx.H₀.get? s₂.heap.objs.size with
      | none => rfl
      | some o => rw [st₂.fr.keep _ o q] at hJ; cases hJ
    have ok2 := ok1.hide hJ0
    have kp2 : ∀ b o, s₂.heap.get? b = some o → (s₂.heap.push { cls := .type "tuple_iterator", data := .fields #[.ref a0, .int 0 0] }).get? b = some o := fun b o e => Heap.get?_push_of_some _ e
    have hJ' : (s₂.heap.push { cls := .type "tuple_iterator", data := .fields #[.ref a0, .int 0 0] }).get? s₂.heap.objs.size = some { cls := .type "tuple_iterator", data := .fields #[.ref a0, .int 0 0] } := Heap.get?_push_size _ rfl
    have st3 := st₂.hide hJ hJ' kp2
    have neA : ad ≠ s₂.heap.objs.size := fun q => by
      obtain ⟨o, n, e, _⟩ := hl2
      rw [q, hJ] at e; cases e
    have neT : a0 ≠ ad := fun q => by rw [q, hideAll_none _ (.head _)] at e1; cases e1
    have tup_hid : a0 ∉ ad :: hid := fun hm => by rw [hideAll_none _ hm] at e1; cases e1
    generalize hII : s₂.heap.objs.size = I at *
    have W := Walks.tuple (prog := cx.prog) (w := cx.w) (A := f.A) ok.hh I a0 (Nat.ne_of_lt hlt) vs0
    have sh : ∀ {b : Addr} {o : Obj}, s.heap.get? b = some o → b ≠ I ∧ b ≠ ad := fun {b o} e => by
      refine ⟨fun q => ?_, fun q => ?_⟩
      · rw [q] at e
        obtain ⟨sl, e'⟩ := (p₂ I o e nLI).2
        rw [hJ] at e'; cases e'
      · rw [q, hI] at e; cases e
    -- a step at I or ad is not seen from the start
    have stepX : ∀ {h h' : Heap} (x : Addr), (x = I ∨ x = ad) → (∀ b o, b ≠ x → h.get? b = some o → h'.get? b = some o) → Pres f s.heap h → Pres f s.heap h' := fun {h h'} x hx q p b o e ne => by
      have nb : b ≠ x := by rcases hx with rfl | rfl; exact (sh e).1; exact (sh e).2
      have p' := p b o e ne
      obtain ⟨sl, e'⟩ := p'.2
      exact ⟨fun hm => q b o nb (p'.1 hm), sl, q b _ nb e'⟩
    refine codeAny_forLoop_any (fun j s' => ∃ i m' σ' acc vs, i ≤ vs0.size ∧ j = vs0.size - i ∧ (Heap.IsTupleIter s'.heap I a0 i ∧ s'.heap.IsTuple a0 vs0) ∧ St cx f (I :: ad :: hid) s'.heap m' σ' ∧ σ' tx = some (.adr ad) ∧
        textsP tx ii row ad (XE.seq B1 B2) (cs.drop i) acc σ' (fun τ => R τ P) ∧ PlainL s'.heap ad vs.toArray ∧ StrsAre vs acc ∧ acc.length = i ∧ Pres f s.heap s'.heap ∧ Same s s') ?_ vs0.size ?_
    · rintro j s' ⟨i, m', σ', acc, vs, hi', rfl, hIt, st', ht, hfp, hpl, hsa, hal, p', z'⟩
      by_cases hlt' : i < vs0.size
      · refine W.item i s' _ _ hlt' hIt fun v h₁ tk hP hIt₁ hk => ?_
        have hkI : ∀ b o, b ≠ I → s'.heap.get? b = some o → h₁.get? b = some o := fun b o nb e => hk b o (fun hm => nb (List.mem_singleton.mp hm)) e
        have st4 : St cx f (I :: ad :: hid) h₁ m' σ' := st'.touch ok2 (.head _) nLI nOI hkI (let ⟨o, ho, _⟩ := hIt₁.1; ⟨o, ho⟩)
        have p4 : Pres f s.heap h₁ := stepX I (.inl rfl) hkI p'
        have hpl4 : PlainL h₁ ad vs.toArray := let ⟨o, n, e, w⟩ := hpl; ⟨o, n, hkI ad o neA e, w⟩
        have hcl : i < cs.length := hlen ▸ hlt'
        rw [List.drop_eq_getElem_cons hcl] at hfp
        obtain ⟨v', bs, g1, g2⟩ := readsAll_get e4 (i := i) (d := .int cs[i]) (by rw [List.getElem?_map, List.getElem?_eq_getElem hcl]; rfl)
        have hv : v = v' := by rw [Array.getElem?_toList] at g1; rw [hP] at g1; exact Option.some.inj g1
        subst hv
        obtain ⟨t, rfl⟩ : ∃ t, v = .int cs[i] t := by cases g2; exact ⟨_, rfl⟩
        show wpAny _ _ (letOwnedTupleGo (.Name ii ip) (.ref I) (.int cs[i] t)) _ _ _
        refine wpAny_pure ?_
        refine assign_Name (store_ok (s := { s' with heap := h₁, toks := tk }) (d := .d (.int cs[i])) ok2 st4 (rep_int _ _) l3 fun m5 s5 st5 p5 z5 => ?_)
        have P5 : Pres f s.heap s5.heap := p4.trans p5
        have Z5 : Same s s5 := z'.trans ⟨z5.1, z5.2, z5.3⟩
        refine wpAny_execs_cons (wpAny_mono (h1 f (I :: ad :: hid) m5 _ s5 _ rfl ok2 st5 hfp) (fun fl s6 ⟨p6, z6, q6⟩ => ?_) fun e s6 x => x.1.elim)
        cases fl with
        | ret v => obtain ⟨_, _, _, _, _, q⟩ := q6; exact q.elim
        | brk => obtain ⟨_, _, _, q⟩ := q6; exact q.elim
        | cont => obtain ⟨_, _, _, q⟩ := q6; exact q.elim
        | next =>
          obtain ⟨m6, σ6, st6, q6⟩ := q6
          refine wpAny_execs_cons (wpAny_mono (h2 f (I :: ad :: hid) m6 _ s6 _ rfl ok2 st6 q6) (fun fl s7 ⟨p7, z7, q7⟩ => ?_) fun e s6 x => x.1.elim)
          cases fl with
          | ret v => obtain ⟨_, _, _, _, _, q⟩ := q7; exact q.elim
          | brk => obtain ⟨_, _, _, q⟩ := q7; exact q.elim
          | cont => obtain ⟨_, _, _, q⟩ := q7; exact q.elim
          | next =>
            obtain ⟨m7, σ7, st7, r, hr, ht7, q7⟩ := q7
            have pp : Pres f h₁ s7.heap := (p5.trans p6).trans p7
            have hpl7 : PlainL s7.heap ad vs.toArray := let ⟨o, n, e, w⟩ := hpl4; ⟨o, n, (pp ad o e nL).1 nO, w⟩
            have hsz : vs.toArray.size ≤ 1000 := by rw [List.size_toArray, hsa.length, hal]; omega
            refine wpAny_execs_cons (append_ok rfl ok2 st7 ht7 hr hpl7 hsz l1 l2 d1 d2 hline fun h8 t8 hpl8 hsb => ?_)
            have hkA : ∀ b o, b ≠ ad → s7.heap.get? b = some o → h8.get? b = some o := fun b o nb e => (hsb.2 b nb).trans e
            have st8 : St cx f (I :: ad :: hid) h8 m7 σ7 := st7.touch ok2 (.tail _ (.head _)) nL nO hkA (let ⟨o, n, e, _⟩ := hpl8; ⟨o, e⟩)
            refine wpAny_execs_nil ⟨vs0.size - (i + 1), by omega, i + 1, m7, σ7, acc ++ [r], vs ++ [.str r t8], hlt', rfl, ?_, st8, ht7, q7, ?_, hsa.snoc, by rw [List.length_append, hal]; rfl, ?_, ?_⟩
            · have fpk : ∀ b ∈ [I, a0], ∀ o, h₁.get? b = some o → h8.get? b = some o := fun b hb o e => by
                have nb : b ≠ ad ∧ b ≠ f.L ∧ b ∉ f.of := by
                  rcases List.mem_cons.mp hb with rfl | hb
                  · exact ⟨Ne.symm neA, nLI, nOI⟩
                  · rw [List.mem_singleton.mp hb]
                    exact ⟨neT, fun q => tup_hid (q ▸ ok1.Lhid), fun q => tup_hid (ok1.ohid _ q)⟩
                exact hkA b o nb.1 ((pp b o e nb.2.1).1 nb.2.2)
              exact W.frame _ _ _ hIt₁ fpk
            · have e : (vs ++ [Value.str r t8]).toArray = vs.toArray.push (.str r t8) := by simp
              rw [e]; exact hpl8
            · exact stepX ad (.inr rfl) hkA ((P5.trans p6).trans p7)
            · exact (Z5.trans z6).trans ⟨z7.1, z7.2, z7.3⟩
      · have hin : i = vs0.size := by omega
        subst hin
        refine W.done s' _ _ hIt fun h₁ tk hk => ?_
        have hkI : ∀ b o, b ≠ I → s'.heap.get? b = some o → h₁.get? b = some o := fun b o nb e => hk b o (fun hm => nb (List.mem_singleton.mp hm)) e
        have p4 : Pres f s.heap h₁ := stepX I (.inl rfl) hkI p'
        have hpl4 : PlainL h₁ ad vs.toArray := let ⟨o, n, e, w⟩ := hpl; ⟨o, n, hkI ad o neA e, w⟩
        rw [List.drop_eq_nil_of_le (by omega)] at hfp
        refine wpAny_execs_nil ?_
        -- the rest
        have st4 : St cx f hid h₁ m' (upd σ' tx (.d (.list (acc.map .str)))) := by
          have v : ∀ b o, (hideAll s'.heap (I :: ad :: hid)).get? b = some o → (hideAll h₁ hid).get? b = some o := hideAll_mono (fun b o e hb => hkI b o (fun q => hb (q ▸ .head _)) e) fun b _ _ hb hm => hb (.tail _ (.tail _ hm))
          refine ⟨⟨st'.fr.ns.at' fun o e => hkI _ o (Ne.symm nLI) e, fun b o e => hkI b o (fun q => by rw [q, hJ0] at e; cases e) (st'.fr.keep b o e), st'.fr.above⟩, fun x d e => ?_, funFrames_pres (fun b hb o e => ⟨o.slots, hkI b o (fun q => nOI (q ▸ hb)) e⟩) st'.frames, fun b hb => ?_⟩
          · by_cases q : x = tx
            · subst q
              rw [upd_same] at e
              obtain rfl := Option.some.inj e
              obtain ⟨w, h1, h2⟩ := st'.env x _ ht
              obtain rfl : w = .ref ad := h2
              obtain ⟨o, n, e', hcls, _, hdat⟩ := hpl4
              have nh : ad ∉ hid := fun hm => by
                obtain ⟨o', e''⟩ := st.old ad hm
                rw [hI] at e''; cases e''
              exact ⟨_, h1, ⟨_, .list (hideAll_get _ e' nh) hcls hdat (by simpa using hsa.reads)⟩⟩
            · rw [upd_ne q] at e
              obtain ⟨w, h1, h2⟩ := st'.env x d e
              exact ⟨w, h1, h2.mono v⟩
          · obtain ⟨o, e⟩ := st'.old b (.tail _ (.tail _ hb))
            exact ⟨o, hkI b o (fun q => by
              obtain ⟨o', e'⟩ := st.old b hb
              exact (sh e').1 q) e⟩
        exact hR.go (s := { s' with heap := h₁, toks := tk }) rfl ok st4 hfp p4 (z'.trans ⟨rfl, rfl, rfl⟩)
    · refine ⟨0, m1, _, [], [], Nat.zero_le _, rfl, ⟨⟨_, hJ', rfl, rfl⟩, let ⟨o, ho, x⟩ := hL; ⟨o, kp2 _ _ ho, x⟩⟩, st3, upd_same, ?_, ?_, trivial, rfl, p₂.trans (Pres.of_keeps kp2), z₂.trans ⟨rfl, rfl, rfl⟩⟩
      · rw [List.drop_zero]; exact hT
      · obtain ⟨o, n, e, w⟩ := hl2; exact ⟨o, n, kp2 _ _ e, w⟩
end

-- the part N1
structure Good (cx : Cx) : Prop where
  hK : cx.K = hd.heap_39 cx.w.params
  hR : cx.RF = 44
  hL : cx.LCa = 404

/-- what the tactics of the kit need to know of the top -/
theorem kept : (fun (_ : PySem.W.OpenLaw) (_ : Params → Frag) => True) PySem.Challenge.rw_no0265_01 hd.heap_39 := by
  k_fill
  trivial

section
variable {cx : Cx} (g : Good cx)
include g
theorem bn_abs : BN cx "abs" (.builtin "abs") := ⟨by rw [g.hK]; k_is, by boot_by_name, by decide⟩
theorem bn_max : BN cx "max" (.builtin "max") := ⟨by rw [g.hK]; k_is, by boot_by_name, by decide⟩
theorem bn_min : BN cx "min" (.builtin "min") := ⟨by rw [g.hK]; k_is, by boot_by_name, by decide⟩
theorem bn_divmod : BN cx "divmod" (.builtin "divmod") := ⟨by rw [g.hK]; k_is, by boot_by_name, by decide⟩
theorem bn_len : BN cx "len" (.builtin "len") := ⟨by rw [g.hK]; k_is, by boot_by_name, by decide⟩
theorem bn_ord : BN cx "ord" (.builtin "ord") := ⟨by rw [g.hK]; k_is, by boot_by_name, by decide⟩
theorem bn_str : BN cx "str" (.type "str") := ⟨by rw [g.hK]; k_is, by boot_by_name, by decide⟩
theorem bn_int : BN cx "int" (.type "int") := ⟨by rw [g.hK]; k_is, by boot_by_name, by decide⟩
theorem bn_range : BN cx "range" (.type "range") := ⟨by rw [g.hK]; k_is, by boot_by_name, by decide⟩

theorem rfCd : ∃ cd, clsIn cx.K cx.RF = some cd ∧ (∃ F7, cd.mro = [.ref cx.RF, .ref F7, .type "Exception", .type "BaseException", .type "object"]) ∧ cd.hasDict = true := by
  rw [g.hK, g.hR]
  exact ⟨_, by k_is, ⟨_, rfl⟩, rfl⟩
theorem rfCall : RFCall cx := by
  obtain ⟨cd, hcd1, hcd2, hcd3⟩ := rfCd g
  refine' RFCall.of (cx := cx) (fI := 28) (cd := cd) ?Y ?exc ?exB ?hbind ?hcell ?l1 ?l2 ?l3 ?hco ?hgen ?hk ?seta ?hc ?hm ?hdct ?ht ?initv ?hcall
  case Y =>
    refine' ⟨?a, ?b, ?c, ?d, ?e⟩
    case a => rw [g.hK, g.hR]; exact ⟨_, _, _, _, _, _, _, _, _, _, _, _, _, _, _, _, by k_is⟩
    case b => rw [g.hK, g.hR]; k_is
    case c => rw [g.hK]; k_is
    case d => rw [g.hK]; k_is
    case e => rw [g.hK]; k_is
  case exc => rw [g.hK]; k_is
  case exB => boot_by_name
  case hbind => intro s self t _; exact BindsTo.of_eq rfl
  case hcell => decide
  case l1 => rfl
  case l2 => rfl
  case l3 => rfl
  case hco => rfl
  case hgen => rfl
  case hk => rfl
  case seta => rw [g.hK, g.hR]; k_is
  case hc => exact hcd1
  case hm => exact hcd2
  case hdct => exact hcd3
  case ht => rw [g.hK, g.hR]; k_is
  case initv => rw [g.hK]; k_is
  case hcall => exact fun env => ⟨_, rfl⟩
theorem rfIs : RFIs cx := by
  refine ⟨?a, ?b, rfCall g, ?d⟩
  case a => rw [g.hK, g.hR]; k_is
  case b => rw [g.hK, g.hR]; k_is
  case d => rw [g.hK, g.hR]; exact ⟨_, _, _, _, _, _, _, _, _, _, _, _, _, _, _, _, by k_is⟩
theorem limCall : LimCall cx := by
  refine' LimCall.of (cx := cx) (fI := 401) ?hm ?hi ?hf ?ho ?hcd ?hbind ?hcell ?hl ?hco ?hgen ?hk ?seta ?hp ?hh ?ht
  case hm => rw [g.hK, g.hL]; k_is
  case hi => rw [g.hK, g.hL]; k_is
  case hf => rw [g.hK]; k_is
  case ho => rw [g.hK]; k_is
  case hcd => rw [g.hK]; k_is
  case hbind => intro s self v1 v2 v3 v4 X; rw [g.hK] at X; exact binds_K X rfl (by k_is) rfl rfl rfl
  case hcell => decide
  case hl => rfl
  case hco => rfl
  case hgen => rfl
  case hk => rfl
  case seta => rw [g.hK, g.hL]; k_is
  case hp => rw [g.hK, g.hL]; k_is
  case hh => rw [g.hK, g.hL]; k_is
  case ht => rw [g.hK, g.hL]; kernel_rfl
theorem limIs : LimIs cx := by
  refine ⟨?a, ?b, limCall g, ?d, ?e, ?f⟩
  case a => rw [g.hK, g.hL]; k_is
  case b => rw [g.hK, g.hL]; k_is
  case d => intro n; rw [g.hK, g.hL]; show plainGet _ _ "width" = true; k_is
  case e => rw [g.hK, g.hL]; k_is
  case f =>
    rw [g.hK, g.hL]
    intro n hn
    simp only [List.mem_cons, List.mem_nil_iff, or_false] at hn
    rcases hn with rfl | rfl | rfl | rfl <;> k_is
end

-- the part P1
theorem loc_upd (x y : Str) (v : V) (σ : Sg) (Q : V → Prop) (X : Prop) : SE.loc x (upd σ y v) Q X = if x = y then Q v else SE.loc x σ Q X := by
  simp only [SE.loc, upd]
  by_cases h : x = y
  · simp only [h, if_true, Option.some.injEq, exists_eq_left']
  · simp only [h, if_false]
theorem loc_var {x : Str} {v : V} {σ : Sg} (h : σ x = some v) (Q : V → Prop) (X : Prop) : SE.loc x σ Q X = Q v := by
  simp only [SE.loc, h, Option.some.injEq, exists_eq_left']
theorem aug_eq (x : Str) (op : Operator) (a : SE) (σ : Sg) (P : Post) : XE.aug x op a σ P = SE.loc x σ (fun d => a σ (fun y => inP op d y fun z => P.next (upd σ x z)) P.exc) P.exc := rfl

/-! ## plain functions: what the text computes -/
noncomputable def fitO (n w : Int) : Option Int := if -(2 ^ (w - 1).toNat) ≤ n ∧ n < 2 ^ (w - 1).toNat then some n else none
noncomputable def optP {α : Type} (o : Option α) (mk : α → V) (Q : V → Prop) (X : Prop) : Prop := match o with | some a => Q (mk a) | none => X
noncomputable def ordI (a b : Int) : Int := if a = b then 0 else if a < b then -1 else 1
noncomputable def ordT (a b : Str) : Int := if a = b then 0 else if a.cps.toList < b.cps.toList then -1 else 1
noncomputable def relB (op : Str) (o : Int) : Option Bool :=
  if op = "eq" then some (decide (o = 0)) else if op = "ne" then some (!decide (o = 0)) else if op = "lt" then some (decide (o < 0)) else if op = "le" then some (decide (o ≤ 0))
  else if op = "gt" then some (decide (0 < o)) else if op = "ge" then some (decide (0 ≤ o)) else none
noncomputable def invO (x n : Int) : Option Int := if x = 0 then none else some (if x = 1 ∨ (x = -1 ∧ n.fmod 2 = 0) then 1 else if x = -1 then -1 else 0)

/-! ## contracts -/
noncomputable def fitSp : Spec := fun ds Q X => kHd ds fun v1 r1 => kI v1 fun n => kHd r1 fun v2 r2 => kI v2 fun w => kNl r2 ((1 ≤ w ∧ w ≤ 1000) ∧ optP (fitO n w) I Q X)
theorem fitSp_q {n : Int} {w : Int} {Q : V → Prop} {X : Prop} : fitSp [.d (.int n), .d (.int w)] Q X = ((1 ≤ w ∧ w ≤ 1000) ∧ optP (fitO n w) I Q X) := rfl
noncomputable def addSp : Spec := fun ds Q X => kHd ds fun v3 r3 => kI v3 fun x => kHd r3 fun v4 r4 => kI v4 fun y => kHd r4 fun v5 r5 => kI v5 fun w => kNl r5 ((1 ≤ w ∧ w ≤ 1000) ∧ optP (fitO (x + y) w) I Q X)
theorem addSp_q {x : Int} {y : Int} {w : Int} {Q : V → Prop} {X : Prop} : addSp [.d (.int x), .d (.int y), .d (.int w)] Q X = ((1 ≤ w ∧ w ≤ 1000) ∧ optP (fitO (x + y) w) I Q X) := rfl
noncomputable def subSp : Spec := fun ds Q X => kHd ds fun v6 r6 => kI v6 fun x => kHd r6 fun v7 r7 => kI v7 fun y => kHd r7 fun v8 r8 => kI v8 fun w => kNl r8 ((1 ≤ w ∧ w ≤ 1000) ∧ optP (fitO (x - y) w) I Q X)
theorem subSp_q {x : Int} {y : Int} {w : Int} {Q : V → Prop} {X : Prop} : subSp [.d (.int x), .d (.int y), .d (.int w)] Q X = ((1 ≤ w ∧ w ≤ 1000) ∧ optP (fitO (x - y) w) I Q X) := rfl
noncomputable def mulSp : Spec := fun ds Q X => kHd ds fun v9 r9 => kI v9 fun x => kHd r9 fun v10 r10 => kI v10 fun y => kHd r10 fun v11 r11 => kI v11 fun w => kNl r11 ((1 ≤ w ∧ w ≤ 1000 ∧ x.natAbs < 2 ^ 64) ∧ optP (fitO (x * y) w) I Q X)
theorem mulSp_q {x : Int} {y : Int} {w : Int} {Q : V → Prop} {X : Prop} : mulSp [.d (.int x), .d (.int y), .d (.int w)] Q X = ((1 ≤ w ∧ w ≤ 1000 ∧ x.natAbs < 2 ^ 64) ∧ optP (fitO (x * y) w) I Q X) := rfl
noncomputable def cutSp : Spec := fun ds Q X => kHd ds fun v12 r12 => kI v12 fun x => kHd r12 fun v13 r13 => kI v13 fun y => kNl r13 (y ≠ 0 ∧ Q (I (x.tdiv y)))
theorem cutSp_q {x : Int} {y : Int} {Q : V → Prop} {X : Prop} : cutSp [.d (.int x), .d (.int y)] Q X = (y ≠ 0 ∧ Q (I (x.tdiv y))) := rfl
noncomputable def divSp : Spec := fun ds Q X => kHd ds fun v14 r14 => kI v14 fun x => kHd r14 fun v15 r15 => kI v15 fun y => kHd r15 fun v16 r16 => kI v16 fun w => kNl r16 ((1 ≤ w ∧ w ≤ 1000) ∧ optP (if y = 0 then none else fitO (x.tdiv y) w) I Q X)
theorem divSp_q {x : Int} {y : Int} {w : Int} {Q : V → Prop} {X : Prop} : divSp [.d (.int x), .d (.int y), .d (.int w)] Q X = ((1 ≤ w ∧ w ≤ 1000) ∧ optP (if y = 0 then none else fitO (x.tdiv y) w) I Q X) := rfl
noncomputable def invSp : Spec := fun ds Q X => kHd ds fun v17 r17 => kI v17 fun x => kHd r17 fun v18 r18 => kI v18 fun n => kNl r18 (optP (invO x n) I Q X)
theorem invSp_q {x : Int} {n : Int} {Q : V → Prop} {X : Prop} : invSp [.d (.int x), .d (.int n)] Q X = (optP (invO x n) I Q X) := rfl
noncomputable def ordSp : Spec := fun ds Q X => kHd ds fun a r => kHd r fun b r => kNl r (kIS a (fun x => kI b fun y => Q (I (ordI x y))) fun x => kS b fun y => Q (I (ordT x y)))
theorem ordSp_q {x y : Int} {Q : V → Prop} {X : Prop} : ordSp [.d (.int x), .d (.int y)] Q X = Q (I (ordI x y)) := rfl
theorem ordSp_qs {x y : Str} {Q : V → Prop} {X : Prop} : ordSp [.d (.str x), .d (.str y)] Q X = Q (I (ordT x y)) := rfl
noncomputable def relSp : Spec := fun ds Q X => kHd ds fun v19 r19 => kS v19 fun op => kHd r19 fun v20 r20 => kI v20 fun o => kNl r20 (optP (relB op o) B Q X)
theorem relSp_q {op : Str} {o : Int} {Q : V → Prop} {X : Prop} : relSp [.d (.str op), .d (.int o)] Q X = (optP (relB op o) B Q X) := rfl

theorem fdiv_pos {a b : Int} (h : 0 < b) : a.fdiv b = a / b := Int.fdiv_eq_ediv_of_nonneg a (Int.le_of_lt h)
theorem fmod_pos {a b : Int} (h : 0 < b) : a.fmod b = a % b := Int.fmod_eq_emod_of_nonneg a (Int.le_of_lt h)
theorem tdiv_of (x y : Int) (hy : y ≠ 0) : x.tdiv y = if (x < 0) = (y < 0) then (if x < 0 then -x else x).fdiv (if y < 0 then -y else y) else -((if x < 0 then -x else x).fdiv (if y < 0 then -y else y)) := by
  by_cases hx : x < 0 <;> by_cases h : y < 0 <;> simp only [hx, h, if_true, if_false]
  · rw [fdiv_pos (by omega), ← Int.tdiv_eq_ediv_of_nonneg (by omega), Int.neg_tdiv_neg]
  · rw [fdiv_pos (by omega), ← Int.tdiv_eq_ediv_of_nonneg (by omega), Int.neg_tdiv, Int.neg_neg]; simp
  · rw [fdiv_pos (by omega), ← Int.tdiv_eq_ediv_of_nonneg (by omega), Int.tdiv_neg, Int.neg_neg]; simp
  · rw [fdiv_pos (by omega), ← Int.tdiv_eq_ediv_of_nonneg (by omega)]
theorem forP_inv {bind : BindE} {b : XE} {P : Post} (Inv : Nat → Sg → Prop) : ∀ (items : List V) (i : Nat) (σ : Sg), Inv i σ →
    (∀ (j : Nat) (d : V) (τ : Sg), items[j]? = some d → Inv (i + j) τ → ∀ N : Sg → Prop, (∀ τ', Inv (i + j + 1) τ' → N τ') → bind d τ fun τ' => b τ' ⟨N, P.ret, P.next, N, P.exc⟩) →
    (∀ τ, Inv (i + items.length) τ → P.next τ) → forP bind b items σ P
  | [], i, σ, h0, _, he => he σ (by simpa using h0)
  | d :: r, i, σ, h0, hs, he => by
    refine hs 0 d σ rfl h0 _ fun τ' hτ => ?_
    refine forP_inv Inv r (i + 1) τ' (by simpa using hτ) (fun j d' τ hj hi N hN => ?_) fun τ hi => he τ ?_
    · have := hs (j + 1) d' τ (by simpa using hj) (by rw [show i + (j + 1) = i + 1 + j by omega]; exact hi) N (fun τ' q => hN τ' (by rw [show i + 1 + j + 1 = i + (j + 1) + 1 by omega]; exact q))
      exact this
    · rw [List.length_cons, show i + (r.length + 1) = i + 1 + r.length by omega]; exact hi

/-! powers -/
noncomputable def inR (n w : Int) : Prop := -(2 ^ (w - 1).toNat) ≤ n ∧ n < 2 ^ (w - 1).toNat
theorem fitO_pos {n w : Int} (h : inR n w) : fitO n w = some n := if_pos h
theorem fitO_neg {n w : Int} (h : ¬ inR n w) : fitO n w = none := if_neg h
theorem inR_abs {n w : Int} (h : inR n w) : n.natAbs ≤ 2 ^ (w - 1).toNat := by
  have e : ((2 ^ (w - 1).toNat : Nat) : Int) = 2 ^ (w - 1).toNat := by simp
  unfold inR at h
  rw [← e] at h
  omega
theorem inR_of_lt {n w : Int} (h : n.natAbs < 2 ^ (w - 1).toNat) : inR n w := by
  have e : ((2 ^ (w - 1).toNat : Nat) : Int) = 2 ^ (w - 1).toNat := by simp
  unfold inR
  rw [← e]
  omega
theorem pow_up {x : Int} (hx : 2 ≤ x.natAbs) {j n : Nat} (h : j < n) : 2 * (x ^ j).natAbs ≤ (x ^ n).natAbs := by
  rw [Int.natAbs_pow, Int.natAbs_pow]
  have h1 : x.natAbs ^ (j + 1) ≤ x.natAbs ^ n := Nat.pow_le_pow_right (by omega) h
  rw [Nat.pow_succ] at h1
  have := Nat.mul_le_mul_left (x.natAbs ^ j) hx
  omega
theorem pow_in {x w : Int} (hx : 2 ≤ x.natAbs) {j n : Nat} (h : inR (x ^ n) w) (hj : j ≤ n) : inR (x ^ j) w := by
  rcases Nat.lt_or_eq_of_le hj with q | rfl
  · have h1 := pow_up hx q
    have h2 := inR_abs h
    have h3 : 1 ≤ (x ^ j).natAbs := by
      rw [Int.natAbs_pow]; exact Nat.pow_pos (by omega)
    exact inR_of_lt (by omega)
  · exact h
theorem pow_big {x w : Int} (hx : 2 ≤ x.natAbs) {n : Nat} (h : inR (x ^ n) w) (hw : 1 ≤ w) : (n : Int) ≤ w - 1 := by
  have h2 := inR_abs h
  rw [Int.natAbs_pow] at h2
  have h3 : 2 ^ n ≤ 2 ^ (w - 1).toNat := Nat.le_trans (Nat.pow_le_pow_left hx n) h2
  have := (Nat.pow_le_pow_iff_right (a := 2) (by omega)).mp h3
  omega
noncomputable def powO (x n w : Int) : Option Int := if n < 0 then (match invO x n with | none => none | some v => fitO v w) else fitO (x ^ n.toNat) w
noncomputable def powSp : Spec := fun ds Q X => kHd ds fun v21 r21 => kI v21 fun x => kHd r21 fun v22 r22 => kI v22 fun n => kHd r22 fun v23 r23 => kI v23 fun w => kNl r23 ((2 ≤ w ∧ w ≤ 60 ∧ n ≤ 1000) ∧ optP (powO x n w) I Q X)
theorem powSp_q {x : Int} {n : Int} {w : Int} {Q : V → Prop} {X : Prop} : powSp [.d (.int x), .d (.int n), .d (.int w)] Q X = ((2 ≤ w ∧ w ≤ 60 ∧ n ≤ 1000) ∧ optP (powO x n w) I Q X) := rfl
theorem neg_one_even (k : Nat) : (-1 : Int) ^ (2 * k) = 1 := by
  rw [Int.pow_mul, show (-1 : Int) ^ 2 = 1 from rfl, Int.one_pow]
theorem small_pow {x n : Int} (hx : x = 0 ∨ x = 1 ∨ x = -1) (hn : ¬ n < 2) : x ^ (2 - n.fmod 2).toNat = x ^ n.toNat := by
  rw [fmod_pos (by omega)]
  obtain ⟨k, hk | hk⟩ : ∃ k : Nat, n.toNat = 2 * k ∨ n.toNat = 2 * k + 1 := ⟨n.toNat / 2, by omega⟩
  · have e : (2 - n % 2).toNat = 2 * 1 := by omega
    have hk1 : k ≠ 0 := by omega
    rw [hk, e]
    rcases hx with rfl | rfl | rfl
    · rw [Int.zero_pow (by omega), Int.zero_pow (by omega)]
    · rw [Int.one_pow, Int.one_pow]
    · rw [neg_one_even, neg_one_even]
  · have e : (2 - n % 2).toNat = 1 := by omega
    rw [hk, e]
    rcases hx with rfl | rfl | rfl
    · rw [Int.zero_pow (by omega), Int.zero_pow (by omega)]
    · rw [Int.one_pow, Int.one_pow]
    · rw [Int.pow_succ (-1) (2 * k), neg_one_even]; rfl
theorem fitP_cases {n w : Int} {Q : V → Prop} {X : Prop} (h1 : inR n w → Q (I n)) (h2 : ¬ inR n w → X) : optP (fitO n w) I Q X := by
  by_cases h : inR n w
  · rw [fitO_pos h]; exact h1 h
  · rw [fitO_neg h]; exact h2 h
theorem fitP_get {n w : Int} {Q : V → Prop} {X : Prop} (h : optP (fitO n w) I Q X) : (inR n w → Q (I n)) ∧ (¬ inR n w → X) :=
  ⟨fun q => by rw [fitO_pos q] at h; exact h, fun q => by rw [fitO_neg q] at h; exact h⟩

-- the part P2
theorem optP_map {α β : Type} (o : Option α) (f : α → β) (mk : β → V) (Q : V → Prop) (X : Prop) : optP (o.map f) mk Q X = optP o (fun a => mk (f a)) Q X := by cases o <;> rfl
noncomputable def binI (op : Str) (x y w : Int) : Option PyData :=
  if op = "add" then (fitO (x + y) w).map .int else if op = "sub" then (fitO (x - y) w).map .int else if op = "mul" then (fitO (x * y) w).map .int
  else if op = "div" then (if y = 0 then none else fitO (x.tdiv y) w).map .int else if op = "pow" ∨ op = "powi" then (powO x y w).map .int else (relB op (ordI x y)).map .bool
noncomputable def colO (x y : Str) : Int := ordT (x ++ Txt.mul " " (max (x.length : Int) y.length - x.length)) (y ++ Txt.mul " " (max (x.length : Int) y.length - y.length))
noncomputable def binT (op x y : Str) : Option PyData := if op = "cat" then some (.str (x ++ y)) else (relB op (colO x y)).map .bool
noncomputable def limOk (w r d t : Int) : Prop := 2 ≤ w ∧ w ≤ 50 ∧ 1 ≤ r ∧ r ≤ 20 ∧ 1 ≤ d ∧ d ≤ 20 ∧ 0 ≤ t ∧ t ≤ 50
noncomputable def ibSp : Spec := fun ds Q X => kHd ds fun v24 r24 => kS v24 fun op => kHd r24 fun v25 r25 => kI v25 fun k => kHd r25 fun v26 r26 => kI v26 fun x => kHd r26 fun v27 r27 => kI v27 fun y => kHd r27 fun v28 r28 => kLim v28 fun w r d t => kNl r28 ((limOk w r d t ∧ x.natAbs < 2 ^ 60 ∧ y ≤ 2 ^ 60 ∧ ((op = "pow" ∨ op = "powi") → y ≤ 1000)) ∧ optP (binI op x y w) V.d Q X)
theorem ibSp_q {op : Str} {k : Int} {x : Int} {y : Int} {w r d t : Int} {Q : V → Prop} {X : Prop} : ibSp [.d (.str op), .d (.int k), .d (.int x), .d (.int y), .lim w r d t] Q X = ((limOk w r d t ∧ x.natAbs < 2 ^ 60 ∧ y ≤ 2 ^ 60 ∧ ((op = "pow" ∨ op = "powi") → y ≤ 1000)) ∧ optP (binI op x y w) V.d Q X) := rfl
noncomputable def colSp : Spec := fun ds Q X => kHd ds fun v29 r29 => kS v29 fun x => kHd r29 fun v30 r30 => kS v30 fun y => kNl r30 ((x.length ≤ 100 ∧ y.length ≤ 100) ∧ Q (I (colO x y)))
theorem colSp_q {x : Str} {y : Str} {Q : V → Prop} {X : Prop} : colSp [.d (.str x), .d (.str y)] Q X = ((x.length ≤ 100 ∧ y.length ≤ 100) ∧ Q (I (colO x y))) := rfl
noncomputable def tbSp : Spec := fun ds Q X => kHd ds fun v31 r31 => kS v31 fun op => kHd r31 fun v32 r32 => kI v32 fun k => kHd r32 fun v33 r33 => kS v33 fun x => kHd r33 fun v34 r34 => kS v34 fun y => kHd r34 fun v35 r35 => kLim v35 fun w r d t => kNl r35 ((x.length ≤ 100 ∧ y.length ≤ 100) ∧ optP (binT op x y) V.d Q X)
theorem tbSp_q {op : Str} {k : Int} {x : Str} {y : Str} {w r d t : Int} {Q : V → Prop} {X : Prop} : tbSp [.d (.str op), .d (.int k), .d (.str x), .d (.str y), .lim w r d t] Q X = ((x.length ≤ 100 ∧ y.length ≤ 100) ∧ optP (binT op x y) V.d Q X) := rfl
noncomputable def binSp : Spec := fun ds Q X => kHd ds fun a r36 => kHd r36 fun v37 r37 => kI v37 fun k => kHd r37 fun x r38 => kHd r38 fun y r39 => kHd r39 fun l r40 => kNl r40 ((k = 0 ∧ ibSp [a, .d (.int k), x, y, l] Q X) ∨ (k = 5 ∧ tbSp [a, .d (.int k), x, y, l] Q X))
theorem binSp_q {a : V} {k : Int} {x : V} {y : V} {l : V} {Q : V → Prop} {X : Prop} : binSp [a, .d (.int k), x, y, l] Q X = ((k = 0 ∧ ibSp [a, .d (.int k), x, y, l] Q X) ∨ (k = 5 ∧ tbSp [a, .d (.int k), x, y, l] Q X)) := rfl
noncomputable def unaSp : Spec := fun ds Q X => kHd ds fun v41 r41 => kS v41 fun op => kHd r41 fun v42 r42 => kI v42 fun k => kHd r42 fun v43 r43 => kD v43 fun v => kHd r43 fun v44 r44 => kLim v44 fun w r d t => kNl r44 ((op = "not" ∧ k = 4 ∧ ∃ b, v = .bool b ∧ Q (B (!b))) ∨ (op = "neg" ∧ k = 0 ∧ ∃ n, v = .int n ∧ (1 ≤ w ∧ w ≤ 1000) ∧ optP (fitO (-n) w) I Q X) ∨
      (op = "neg" ∧ k = 2 ∧ ∃ m e, v = .tuple [.int m, .int e] ∧ Q (.d (.tuple [.int (-m), .int e]))))
theorem unaSp_q {op : Str} {k : Int} {v : PyData} {w r d t : Int} {Q : V → Prop} {X : Prop} : unaSp [.d (.str op), .d (.int k), .d v, .lim w r d t] Q X = ((op = "not" ∧ k = 4 ∧ ∃ b, v = .bool b ∧ Q (B (!b))) ∨ (op = "neg" ∧ k = 0 ∧ ∃ n, v = .int n ∧ (1 ≤ w ∧ w ≤ 1000) ∧ optP (fitO (-n) w) I Q X) ∨
      (op = "neg" ∧ k = 2 ∧ ∃ m e, v = .tuple [.int m, .int e] ∧ Q (.d (.tuple [.int (-m), .int e])))) := rfl
noncomputable def rnegSp : Spec := fun ds Q X => kHd ds fun v45 r45 => kTup v45 fun t45 => kHd t45 fun a45 q45 => pI a45 fun m => kHd q45 fun b45 p45 => pI b45 fun e => kNl p45 (kNl r45 (Q (.d (.tuple [.int (-m), .int e]))))
theorem rnegSp_q {m e : Int} {Q : V → Prop} {X : Prop} : rnegSp [.d (.tuple [.int m, .int e])] Q X = (Q (.d (.tuple [.int (-m), .int e]))) := rfl
theorem blank : Str.ofString " " = ⟨#[32]⟩ := by decide +kernel
theorem blank_len {n : Int} {N : Nat} (h : n ≤ (N : Int)) : (Txt.mul (Str.ofString " ") n).length ≤ N := len_mul_one blank h

-- the part P3
/-! ## digits and decimal rounding -/
noncomputable def IsNd (n k : Nat) : Prop := n < 10 ^ k ∧ ∀ j, k = j + 1 → 10 ^ j ≤ n
theorem IsNd.uniq {n k k' : Nat} (h : IsNd n k) (h' : IsNd n k') : k = k' := by
  rcases Nat.lt_trichotomy k k' with q | q | q
  · obtain ⟨j, rfl⟩ : ∃ j, k' = j + 1 := ⟨k' - 1, by omega⟩
    have h1 := h'.2 j rfl
    have h2 : 10 ^ k ≤ 10 ^ j := Nat.pow_le_pow_right (by decide) (by omega)
    have h3 := h.1
    omega
  · exact q
  · obtain ⟨j, rfl⟩ : ∃ j, k = j + 1 := ⟨k - 1, by omega⟩
    have h1 := h.2 j rfl
    have h2 : 10 ^ k' ≤ 10 ^ j := Nat.pow_le_pow_right (by decide) (by omega)
    have h3 := h'.1
    omega
theorem IsNd.zero0 : IsNd 0 0 := ⟨by decide, fun j h => by omega⟩
theorem IsNd.zero {k : Nat} (h : IsNd 0 k) : k = 0 := h.uniq .zero0
theorem IsNd.pos {n k : Nat} (h : IsNd n k) (hn : 0 < n) : 0 < k := by
  rcases k with _ | k
  · have := h.1
    simp at this
    omega
  · omega
theorem IsNd.of {n j : Nat} (h1 : 10 ^ j ≤ n) (h2 : n < 10 ^ (j + 1)) : IsNd n (j + 1) := ⟨h2, fun i hi => (show i = j by omega) ▸ h1⟩
theorem IsNd.le {n k N : Nat} (h : IsNd n k) (hN : n < 10 ^ N) : k ≤ N := by
  rcases k with _ | j
  · omega
  · have h1 := h.2 j rfl
    have := (Nat.pow_lt_pow_iff_right (a := 10) (by decide)).mp (Nat.lt_of_le_of_lt h1 hN)
    omega
theorem IsNd.lo {n k : Nat} (h : IsNd n k) (hn : 0 < n) : 10 ^ (k - 1) ≤ n := h.2 (k - 1) (by have := h.pos hn; omega)
theorem IsNd.scale {n k : Nat} (h : IsNd n k) (hn : 0 < n) (z : Nat) : IsNd (n * 10 ^ z) (k + z) := by
  have hk := h.pos hn
  have e : k + z = (k - 1 + z) + 1 := by omega
  have p : 0 < 10 ^ z := Nat.pow_pos (by decide)
  rw [e]
  refine .of ?_ ?_
  · rw [Nat.pow_add]; exact Nat.mul_le_mul_right _ (h.lo hn)
  · rw [show k - 1 + z + 1 = k + z by omega, Nat.pow_add]; exact (Nat.mul_lt_mul_right p).mpr h.1
theorem strip_uniq {s s' : Int} {z z' : Nat} (h : s * 10 ^ z = s' * 10 ^ z') (h1 : s % 10 ≠ 0) (h2 : s' % 10 ≠ 0) : s = s' ∧ z = z' := by
  have key : ∀ {s s' : Int} {z z' : Nat}, z ≤ z' → s * 10 ^ z = s' * 10 ^ z' → s % 10 ≠ 0 → s = s' ∧ z = z' := by
    intro s s' z z' hz h h1
    obtain ⟨d, rfl⟩ : ∃ d, z' = z + d := ⟨z' - z, by omega⟩
    have p : (10 : Int) ^ z ≠ 0 := by have : (0 : Int) < 10 ^ z := Int.pow_pos (by decide); omega
    rw [Int.pow_add, Int.mul_comm (10 ^ z) (10 ^ d), ← Int.mul_assoc] at h
    have e := Int.eq_of_mul_eq_mul_right p h
    rcases d with _ | d
    · exact ⟨by rw [e]; simp, rfl⟩
    · exfalso
      apply h1
      rw [e, Int.pow_succ, ← Int.mul_assoc]
      exact Int.mul_emod_left _ _
  rcases Nat.le_total z z' with q | q
  · exact key q h h1
  · obtain ⟨a, b⟩ := key q h.symm h2
    exact ⟨a.symm, b.symm⟩

/-- n / b, half to even -/
noncomputable def half (n b : Nat) : Nat := if 2 * (n % b) > b ∨ (2 * (n % b) = b ∧ n / b % 2 = 1) then n / b + 1 else n / b
/-- m * 10^e with N digits cut to `digits` of them -/
noncomputable def rto (m e digits : Int) (N : Nat) : Int × Int :=
  if 0 < N - digits then (if 0 < m then (half m.natAbs (10 ^ (N - digits).toNat) : Int) else -(half m.natAbs (10 ^ (N - digits).toNat) : Int), e + (N - digits)) else (m, e)
noncomputable def leadO (lead top s e : Int) : Option (Int × Int) := if lead < -top then some (0, 0) else if top < lead then none else some (s, e)
/-- o is the rounding of m * 10^e -/
noncomputable def IsRnd (m e digits top : Int) (o : Option (Int × Int)) : Prop :=
  (m = 0 ∧ o = some (0, 0)) ∨ (m ≠ 0 ∧ ∃ (N : Nat) (s : Int) (z k : Nat), IsNd m.natAbs N ∧ (rto m e digits N).1 = s * 10 ^ z ∧ s % 10 ≠ 0 ∧ IsNd s.natAbs k ∧ o = leadO ((rto m e digits N).2 + z + k - 1) top s ((rto m e digits N).2 + z))
theorem IsRnd.uniq {m e d t : Int} {o o' : Option (Int × Int)} (h : IsRnd m e d t o) (h' : IsRnd m e d t o') : o = o' := by
  rcases h with ⟨a, b⟩ | ⟨a, N, s, z, k, h1, h2, h3, h4, h5⟩ <;> rcases h' with ⟨a', b'⟩ | ⟨a', N', s', z', k', h1', h2', h3', h4', h5'⟩
  · rw [b, b']
  · exact absurd a a'
  · exact absurd a' a
  · obtain rfl := h1.uniq h1'
    obtain ⟨rfl, rfl⟩ := strip_uniq (h2.symm.trans h2') h3 h3'
    obtain rfl := h4.uniq h4'
    rw [h5, h5']
open Classical in
noncomputable def rnd (m e d t : Int) : Option (Int × Int) := if h : ∃ o, IsRnd m e d t o then h.choose else none
theorem IsRnd.eq {m e d t : Int} {o : Option (Int × Int)} (h : IsRnd m e d t o) : rnd m e d t = o := by
  unfold rnd
  rw [dif_pos ⟨o, h⟩]
  exact IsRnd.uniq (Exists.choose_spec (⟨o, h⟩ : ∃ o, IsRnd m e d t o)) h
/-- m * 10^e without its fraction -/
noncomputable def cutI (m e : Int) : Int := (m * 10 ^ e.toNat).tdiv (10 ^ (-e).toNat)
noncomputable def man : PyData → Int × Int
  | .int n => (n, 0)
  | .tuple [.int m, .int e] => (m, e)
  | .tuple [.tuple [.int m, .int e], _] => (m, e)
  | _ => (0, 0)
noncomputable def numOk (m e : Int) : Prop := m.natAbs < 10 ^ 18 ∧ -100 ≤ e ∧ e ≤ 100
/-- a value of the kind k -/
noncomputable def okv (k : Int) : PyData → Prop
  | .int n => k = 0 ∧ numOk n 0
  | .tuple [.int m, .int e] => (k = 1 ∨ k = 2) ∧ numOk m e
  | .tuple [.tuple [.int m, .int e], _] => k = 3 ∧ numOk m e
  | .bool _ => k = 4
  | .str _ => k = 5
  | _ => False
noncomputable abbrev tupD (p : Int × Int) : PyData := .tuple [.int p.1, .int p.2]
noncomputable abbrev tupV (p : Int × Int) : V := .d (tupD p)
noncomputable def convO (k to : Int) (v : PyData) (w r d t : Int) : Option PyData :=
  if k = to then some v else if k = 4 ∨ k = 5 ∨ to = 4 ∨ to = 5 then none
  else if to = 3 then (rnd (man v).1 (man v).2 r t).map fun p => .tuple [tupD p, .tuple [.int 0, .int 0]]
  else if to = 1 ∨ to = 2 then (rnd (man v).1 (man v).2 (if to = 1 then r else d) t).map tupD
  else (fitO (cutI (man v).1 (man v).2) w).map .int

noncomputable def cdSp : Spec := fun ds Q X => kHd ds fun v46 r46 => kI v46 fun n => kNl r46 (∀ k, IsNd n.natAbs k → Q (I k))
theorem cdSp_q {n : Int} {Q : V → Prop} {X : Prop} : cdSp [.d (.int n)] Q X = (∀ k, IsNd n.natAbs k → Q (I k)) := rfl
noncomputable def szSp : Spec := fun ds Q X => kHd ds fun v47 r47 => kI v47 fun m => kHd r47 fun v48 r48 => kI v48 fun e => kNl r48 ((m = 0 → Q (.d (.tuple [.int 0, .int 0]))) ∧ (m ≠ 0 → ∀ (s : Int) (z : Nat), m = s * 10 ^ z → s % 10 ≠ 0 → Q (.d (.tuple [.int s, .int (e + z)]))))
theorem szSp_q {m : Int} {e : Int} {Q : V → Prop} {X : Prop} : szSp [.d (.int m), .d (.int e)] Q X = ((m = 0 → Q (.d (.tuple [.int 0, .int 0]))) ∧ (m ≠ 0 → ∀ (s : Int) (z : Nat), m = s * 10 ^ z → s % 10 ≠ 0 → Q (.d (.tuple [.int s, .int (e + z)])))) := rfl
noncomputable def rdSp : Spec := fun ds Q X => kHd ds fun v49 r49 => kI v49 fun m => kHd r49 fun v50 r50 => kI v50 fun e => kHd r50 fun v51 r51 => kI v51 fun dg => kNl r51 ((1 ≤ dg ∧ dg ≤ 30 ∧ m.natAbs < 10 ^ 18) ∧ (m = 0 → Q (.d (.tuple [.int 0, .int 0]))) ∧
    (m ≠ 0 → ∀ (N : Nat) (s : Int) (z : Nat), IsNd m.natAbs N → (rto m e dg N).1 = s * 10 ^ z → s % 10 ≠ 0 → Q (.d (.tuple [.int s, .int ((rto m e dg N).2 + z)]))))
theorem rdSp_q {m : Int} {e : Int} {dg : Int} {Q : V → Prop} {X : Prop} : rdSp [.d (.int m), .d (.int e), .d (.int dg)] Q X = ((1 ≤ dg ∧ dg ≤ 30 ∧ m.natAbs < 10 ^ 18) ∧ (m = 0 → Q (.d (.tuple [.int 0, .int 0]))) ∧
    (m ≠ 0 → ∀ (N : Nat) (s : Int) (z : Nat), IsNd m.natAbs N → (rto m e dg N).1 = s * 10 ^ z → s % 10 ≠ 0 → Q (.d (.tuple [.int s, .int ((rto m e dg N).2 + z)])))) := rfl
noncomputable def rrSp : Spec := fun ds Q X => kHd ds fun v52 r52 => kI v52 fun m => kHd r52 fun v53 r53 => kI v53 fun e => kHd r53 fun v54 r54 => kI v54 fun dg => kHd r54 fun v55 r55 => kI v55 fun t => kNl r55 ((1 ≤ dg ∧ dg ≤ 30 ∧ m.natAbs < 10 ^ 18 ∧ 0 ≤ t) ∧ optP (rnd m e dg t) tupV Q X)
theorem rrSp_q {m : Int} {e : Int} {dg : Int} {t : Int} {Q : V → Prop} {X : Prop} : rrSp [.d (.int m), .d (.int e), .d (.int dg), .d (.int t)] Q X = ((1 ≤ dg ∧ dg ≤ 30 ∧ m.natAbs < 10 ^ 18 ∧ 0 ≤ t) ∧ optP (rnd m e dg t) tupV Q X) := rfl
noncomputable def riSp : Spec := fun ds Q X => kHd ds fun v56 r56 => kI v56 fun n => kHd r56 fun v57 r57 => kI v57 fun dg => kHd r57 fun v58 r58 => kI v58 fun t => kNl r58 ((1 ≤ dg ∧ dg ≤ 30 ∧ n.natAbs < 10 ^ 18 ∧ 0 ≤ t) ∧ optP (rnd n 0 dg t) tupV Q X)
theorem riSp_q {n : Int} {dg : Int} {t : Int} {Q : V → Prop} {X : Prop} : riSp [.d (.int n), .d (.int dg), .d (.int t)] Q X = ((1 ≤ dg ∧ dg ≤ 30 ∧ n.natAbs < 10 ^ 18 ∧ 0 ≤ t) ∧ optP (rnd n 0 dg t) tupV Q X) := rfl
noncomputable def tiSp : Spec := fun ds Q X => kHd ds fun v59 r59 => kTup v59 fun t59 => kHd t59 fun a59 q59 => pI a59 fun m => kHd q59 fun b59 p59 => pI b59 fun e => kNl p59 (kNl r59 (numOk m e ∧ Q (I (cutI m e))))
theorem tiSp_q {m e : Int} {Q : V → Prop} {X : Prop} : tiSp [.d (.tuple [.int m, .int e])] Q X = (numOk m e ∧ Q (I (cutI m e))) := rfl
noncomputable def doSp : Spec := fun ds Q X => kHd ds fun v60 r60 => kI v60 fun k => kHd r60 fun v61 r61 => kLim v61 fun w r d t => kNl r61 (Q (I (if k = 1 then r else d)))
theorem doSp_q {k : Int} {w r d t : Int} {Q : V → Prop} {X : Prop} : doSp [.d (.int k), .lim w r d t] Q X = (Q (I (if k = 1 then r else d))) := rfl
noncomputable def raSp : Spec := fun ds Q X => kHd ds fun v62 r62 => kD v62 fun v => kHd r62 fun v63 r63 => kI v63 fun k => kHd r63 fun v64 r64 => kI v64 fun to => kHd r64 fun v65 r65 => kLim v65 fun w r d t => kNl r65 ((limOk w r d t ∧ okv k v ∧ k ≠ 4 ∧ k ≠ 5) ∧ optP (rnd (man v).1 (man v).2 (if to = 1 then r else d) t) tupV Q X)
theorem raSp_q {v : PyData} {k : Int} {to : Int} {w r d t : Int} {Q : V → Prop} {X : Prop} : raSp [.d v, .d (.int k), .d (.int to), .lim w r d t] Q X = ((limOk w r d t ∧ okv k v ∧ k ≠ 4 ∧ k ≠ 5) ∧ optP (rnd (man v).1 (man v).2 (if to = 1 then r else d) t) tupV Q X) := rfl
noncomputable def cvSp : Spec := fun ds Q X => kHd ds fun v66 r66 => kD v66 fun v => kHd r66 fun v67 r67 => kI v67 fun k => kHd r67 fun v68 r68 => kI v68 fun to => kHd r68 fun v69 r69 => kLim v69 fun w r d t => kNl r69 ((limOk w r d t ∧ okv k v ∧ (0 ≤ to ∧ to ≤ 5)) ∧ optP (convO k to v w r d t) V.d Q X)
theorem cvSp_q {v : PyData} {k : Int} {to : Int} {w r d t : Int} {Q : V → Prop} {X : Prop} : cvSp [.d v, .d (.int k), .d (.int to), .lim w r d t] Q X = ((limOk w r d t ∧ okv k v ∧ (0 ≤ to ∧ to ≤ 5)) ∧ optP (convO k to v w r d t) V.d Q X) := rfl

-- the part P4
/-! ## figures of a number -/
noncomputable def fig (n : Nat) : Str := Str.ofString (toString ((n : Nat) : Int))
noncomputable def figs (n : Nat) : List Nat := (Nat.toDigits 10 n).map Char.toNat
theorem fig_list (n : Nat) : (fig n).cps.toList = figs n := KIN.signs_num n
theorem figs_app (a d : Nat) (ha : 0 < a) (hd : d < 10) : figs (10 * a + d) = figs a ++ [(Nat.digitChar d).toNat] := by
  unfold figs
  rw [← Nat.toDigits_append_toDigits (by decide) ha hd, List.map_append, Nat.toDigits_of_lt_base hd]
  rfl
theorem figs_zeros (s : Nat) (hs : 0 < s) : ∀ z : Nat, figs (s * 10 ^ z) = figs s ++ List.replicate z 48
  | 0 => by simp
  | z + 1 => by
    have p : 0 < s * 10 ^ z := Nat.mul_pos hs (Nat.pow_pos (by decide))
    have e : s * 10 ^ (z + 1) = 10 * (s * 10 ^ z) + 0 := by rw [Nat.pow_succ, ← Nat.mul_assoc]; omega
    rw [e, figs_app _ 0 p (by decide), figs_zeros s hs z, List.append_assoc, List.replicate_succ']
    rfl
theorem digit_ne : ∀ d : Nat, d < 10 → d ≠ 0 → (Nat.digitChar d).toNat ≠ 48 := by decide
theorem figs_last {s : Nat} (hs : s % 10 ≠ 0) : ∃ L c, figs s = L ++ [c] ∧ c ≠ 48 := by
  by_cases h : s < 10
  · refine ⟨[], _, ?_, digit_ne s h (by omega)⟩
    unfold figs; rw [Nat.toDigits_of_lt_base h]; rfl
  · refine ⟨figs (s / 10), (Nat.digitChar (s % 10)).toNat, ?_, digit_ne _ (by omega) hs⟩
    rw [← figs_app _ _ (by omega) (by omega), Nat.div_add_mod]
theorem zero_text : Str.ofString "0" = ⟨#[48]⟩ := by decide +kernel
theorem rstrip_list {x : Str} {L : List Nat} {z c : Nat} (h : x.cps.toList = (L ++ [c]) ++ List.replicate z 48) (hc : c ≠ 48) : Txt.rstripChars x (Str.ofString "0") = ⟨(L ++ [c]).toArray⟩ := by
  unfold Txt.rstripChars
  rw [PyProof.Rows.stripBy_eq]
  have e0 : stripLo (Str.ofString "0").cps.contains false x = 0 := rfl
  rw [e0, zero_text]
  have hl : x.length = (L ++ [c]).length + z := by
    have : x.cps.toList.length = x.length := Array.length_toList
    rw [← this, h, List.length_append, List.length_replicate]
  have hg : (fun d => (#[48] : Array Nat).contains d) = fun d => d == 48 := by
    funext d; simp; rfl
  have et : ∀ z : Nat, (List.replicate z 48 ++ (c :: L.reverse)).takeWhile (fun d => d == 48) = List.replicate z 48 := by
    intro z
    induction z with
    | zero => simp [List.takeWhile_cons, hc]
    | succ z ih => rw [List.replicate_succ, List.cons_append, List.takeWhile_cons, if_pos (by decide), ih]
  have eh : stripHi (#[48] : Array Nat).contains true x 0 = (L ++ [c]).length := by
    unfold stripHi
    rw [if_pos rfl, List.drop_zero, h, List.reverse_append, List.reverse_replicate, List.reverse_append, List.reverse_singleton, List.singleton_append]
    show x.length - ((List.replicate z 48 ++ (c :: L.reverse)).takeWhile (fun d => (#[48] : Array Nat).contains d)).length = _
    rw [hg, et, List.length_replicate, hl]
    omega
  show Builtin.Str.strSub x 0 (stripHi (#[48] : Array Nat).contains true x 0) = _
  rw [eh, strSub_mk, h, List.drop_zero, Nat.sub_zero, List.take_left]
theorem strip_fig {n s z : Nat} (h : n = s * 10 ^ z) (hs : s % 10 ≠ 0) : Txt.rstripChars (fig n) (Str.ofString "0") = fig s := by
  obtain ⟨L, c, e, hc⟩ := figs_last hs
  rw [rstrip_list (L := L) (c := c) (z := z) (by rw [fig_list, h, figs_zeros s (by omega), e]) hc, ← e]
  apply Str.ext'
  apply Array.toList_inj.mp
  rw [fig_list]
theorem strip_zero : Txt.rstripChars (fig 0) (Str.ofString "0") = Str.ofString "" := by decide +kernel
theorem fig_length (n : Nat) : (fig n).length = (Nat.toDigits 10 n).length := by
  have : (fig n).cps.toList.length = (fig n).length := Array.length_toList
  rw [← this, fig_list]; unfold figs; rw [List.length_map]
theorem fig_nd {n k : Nat} (h : IsNd n k) (hn : 0 < n) : (fig n).length = k := by
  have hk := h.pos hn
  rw [fig_length]
  have h1 := digits10_le hk h.1
  have h2 := digits10_ge (h.lo hn)
  omega
theorem fig_le {n k : Nat} (hk : 1 ≤ k) (h : n < 10 ^ k) : (fig n).length ≤ k := by rw [fig_length]; exact digits10_le hk h
theorem fig_one (n : Nat) : 1 ≤ (fig n).length := by rw [fig_length]; exact toDigits_len_ge 10 n
theorem fig_reads {n : Nat} (hl : (fig n).length ≤ 640) : PySem.intText? (fig n) = some (n : Int) := by
  have hd : PySem.NumText.AllDigits (fig n).cps.toList := by
    intro c hc
    rw [fig_list] at hc
    obtain ⟨ch, hch, e⟩ := List.mem_map.mp hc
    have r := digit_range (Nat.isDigit_of_mem_toDigits (by decide) (by decide) hch)
    rw [← e]
    exact r
  have hne : (fig n).cps.toList ≠ [] := by
    intro e
    have := fig_one n
    have h2 : (fig n).cps.toList.length = (fig n).length := Array.length_toList
    rw [e] at h2
    simp at h2
    omega
  have e := PySem.intText_digits hd hne (Nat.le_trans hl (by decide))
  rw [fig_list] at e
  unfold figs at e
  rw [KIN.val_back] at e
  exact e
theorem exists_strip : ∀ n : Nat, 0 < n → ∃ s z, n = s * 10 ^ z ∧ s % 10 ≠ 0 := by
  intro n
  induction n using Nat.strongRecOn with
  | _ n ih =>
    intro hn
    by_cases h : n % 10 = 0
    · obtain ⟨s, z, e, hs⟩ := ih (n / 10) (by omega) (by omega)
      refine ⟨s, z + 1, ?_, hs⟩
      rw [Nat.pow_succ, ← Nat.mul_assoc, ← e]; omega
    · exact ⟨n, 0, by simp, h⟩
theorem exists_nd (n : Nat) : ∃ k, IsNd n k := by
  induction n using Nat.strongRecOn with
  | _ n ih =>
    by_cases h : n = 0
    · exact ⟨0, h ▸ .zero0⟩
    · by_cases h1 : n < 10
      · exact ⟨1, .of (j := 0) (by simp; omega) (by simpa using h1)⟩
      · obtain ⟨k, hk⟩ := ih (n / 10) (by omega)
        have hp := hk.pos (by omega)
        obtain ⟨j, rfl⟩ : ∃ j, k = j + 1 := ⟨k - 1, by omega⟩
        refine ⟨j + 1 + 1, .of ?_ ?_⟩
        · have := hk.2 j rfl
          rw [Nat.pow_succ]; omega
        · have := hk.1
          rw [Nat.pow_succ]; omega

-- the part P5
/-! ## contracts of the law's own helpers -/
noncomputable def optL (o : Option PyData) : V := .d (.list o.toList)
noncomputable def intsOk (xs : List PyData) : Prop := (∃ ns : List Int, xs = ns.map .int) ∧ xs.length ≤ 100
noncomputable def pkSp : Spec := fun ds Q X => kHd ds fun v70 r70 => kLst v70 fun xs => kHd r70 fun v71 r71 => kI v71 fun i => kHd r71 fun v72 r72 => kI v72 fun m => kNl r72 ((intsOk xs ∧ 0 ≤ i ∧ i < 1000 ∧ 0 < m) ∧ ∀ v, 0 ≤ v → v < m → Q (I v))
theorem pkSp_q {xs : List PyData} {i : Int} {m : Int} {Q : V → Prop} {X : Prop} : pkSp [.d (.list xs), .d (.int i), .d (.int m)] Q X = ((intsOk xs ∧ 0 ≤ i ∧ i < 1000 ∧ 0 < m) ∧ ∀ v, 0 ≤ v → v < m → Q (I v)) := rfl
noncomputable def frSp : Spec := fun ds Q X => kHd ds fun v73 r73 => kTup v73 fun t73 => kHd t73 fun a73 q73 => pI a73 fun m => kHd q73 fun b73 p73 => pI b73 fun e => kNl p73 (kNl r73 (numOk m e ∧ Q (.d (.tuple [.int (m * 10 ^ e.toNat), .int (10 ^ (-e).toNat)]))))
theorem frSp_q {m e : Int} {Q : V → Prop} {X : Prop} : frSp [.d (.tuple [.int m, .int e])] Q X = (numOk m e ∧ Q (.d (.tuple [.int (m * 10 ^ e.toNat), .int (10 ^ (-e).toNat)]))) := rfl
noncomputable def ctSp : Spec := fun ds Q X => kHd ds fun v74 r74 => kI v74 fun a => kHd r74 fun v75 r75 => kI v75 fun b => kNl r75 (b ≠ 0 ∧ Q (I (a.tdiv b)))
theorem ctSp_q {a : Int} {b : Int} {Q : V → Prop} {X : Prop} : ctSp [.d (.int a), .d (.int b)] Q X = (b ≠ 0 ∧ Q (I (a.tdiv b))) := rfl
noncomputable def lfSp : Spec := fun ds Q X => kHd ds fun v76 r76 => kI v76 fun n => kHd r76 fun v77 r77 => kI v77 fun w => kNl r77 ((1 ≤ w ∧ w ≤ 1000) ∧ Q (optL ((fitO n w).map .int)))
theorem lfSp_q {n : Int} {w : Int} {Q : V → Prop} {X : Prop} : lfSp [.d (.int n), .d (.int w)] Q X = ((1 ≤ w ∧ w ≤ 1000) ∧ Q (optL ((fitO n w).map .int))) := rfl
noncomputable def wholeO (op : Str) (x y w : Int) : Option Int :=
  if op = "add" then fitO (x + y) w else if op = "sub" then fitO (x - y) w else if op = "mul" then fitO (x * y) w
  else if op = "div" then (if y = 0 then none else fitO (x.tdiv y) w) else if 0 ≤ y then fitO (x ^ y.toNat) w else if x = 0 then none else fitO ((1 : Int).tdiv (x ^ (-y).toNat)) w
noncomputable def whSp : Spec := fun ds Q X => kHd ds fun v78 r78 => kS v78 fun op => kHd r78 fun v79 r79 => kI v79 fun x => kHd r79 fun v80 r80 => kI v80 fun y => kHd r80 fun v81 r81 => kI v81 fun w => kNl r81 (((1 ≤ w ∧ w ≤ 1000) ∧ x.natAbs < 2 ^ 60 ∧ (op = "pow" → -1000 ≤ y ∧ y ≤ 1000) ∧ (op = "add" ∨ op = "sub" ∨ op = "mul" ∨ op = "div" ∨ op = "pow")) ∧ Q (optL ((wholeO op x y w).map .int)))
theorem whSp_q {op : Str} {x : Int} {y : Int} {w : Int} {Q : V → Prop} {X : Prop} : whSp [.d (.str op), .d (.int x), .d (.int y), .d (.int w)] Q X = (((1 ≤ w ∧ w ≤ 1000) ∧ x.natAbs < 2 ^ 60 ∧ (op = "pow" → -1000 ≤ y ∧ y ≤ 1000) ∧ (op = "add" ∨ op = "sub" ∨ op = "mul" ∨ op = "div" ∨ op = "pow")) ∧ Q (optL ((wholeO op x y w).map .int))) := rfl
noncomputable def relRows (o : Int) : List (Str × Bool) := [("eq", decide (o = 0)), ("ne", !decide (o = 0)), ("lt", decide (o < 0)), ("le", decide (o ≤ 0)), ("gt", decide (0 < o)), ("ge", decide (0 ≤ o))]
noncomputable def reSp : Spec := fun ds Q X => kHd ds fun v82 r82 => kI v82 fun o => kNl r82 (Q (.rows (relRows o)))
theorem reSp_q {o : Int} {Q : V → Prop} {X : Prop} : reSp [.d (.int o)] Q X = (Q (.rows (relRows o))) := rfl
noncomputable def loSp : Spec := fun ds Q X => kHd ds fun v83 r83 => kS v83 fun x => kHd r83 fun v84 r84 => kS v84 fun y => kNl r84 ((x.length ≤ 100 ∧ y.length ≤ 100) ∧ Q (I (colO x y)))
theorem loSp_q {x : Str} {y : Str} {Q : V → Prop} {X : Prop} : loSp [.d (.str x), .d (.str y)] Q X = ((x.length ≤ 100 ∧ y.length ≤ 100) ∧ Q (I (colO x y))) := rfl
noncomputable def lcSp : Spec := fun ds Q X => kHd ds fun v85 r85 => kD v85 fun v => kHd r85 fun v86 r86 => kI v86 fun k => kHd r86 fun v87 r87 => kI v87 fun to => kHd r87 fun v88 r88 => kLim v88 fun w r d t => kNl r88 ((limOk w r d t ∧ okv k v ∧ (0 ≤ to ∧ to ≤ 5)) ∧ Q (optL (convO k to v w r d t)))
theorem lcSp_q {v : PyData} {k : Int} {to : Int} {w r d t : Int} {Q : V → Prop} {X : Prop} : lcSp [.d v, .d (.int k), .d (.int to), .lim w r d t] Q X = ((limOk w r d t ∧ okv k v ∧ (0 ≤ to ∧ to ≤ 5)) ∧ Q (optL (convO k to v w r d t))) := rfl
noncomputable def oneL (Q : V → Prop) : V → Prop := fun x => allD [x] fun xs => Q (.d (.list xs))
noncomputable def hdSp : Spec := fun ds Q X => kHd ds fun v89 r89 => kI v89 fun way => kHd r89 fun a r90 => kHd r90 fun v91 r91 => kI v91 fun k => kHd r91 fun x r92 => kHd r92 fun y r93 => kHd r93 fun l r94 => kNl r94 ((way = 0 ∧ binSp [a, .d (.int k), x, y, l] (oneL Q) (Q (.d (.list [])))) ∨ (way = 1 ∧ cvSp [x, .d (.int k), y, l] (oneL Q) (Q (.d (.list [])))) ∨ (way = 2 ∧ unaSp [a, .d (.int k), x, l] (oneL Q) (Q (.d (.list [])))))
theorem hdSp_q {way : Int} {a : V} {k : Int} {x : V} {y : V} {l : V} {Q : V → Prop} {X : Prop} : hdSp [.d (.int way), a, .d (.int k), x, y, l] Q X = ((way = 0 ∧ binSp [a, .d (.int k), x, y, l] (oneL Q) (Q (.d (.list [])))) ∨ (way = 1 ∧ cvSp [x, .d (.int k), y, l] (oneL Q) (Q (.d (.list [])))) ∨ (way = 2 ∧ unaSp [a, .d (.int k), x, l] (oneL Q) (Q (.d (.list []))))) := rfl
noncomputable def rndV (m e dg t : Int) : V := match rnd m e dg t with | some p => tupV p | none => NN
noncomputable def rouSp : Spec := fun ds Q X => kHd ds fun v95 r95 => kI v95 fun a => kHd r95 fun v96 r96 => kI v96 fun b => kHd r96 fun v97 r97 => kI v97 fun dg => kHd r97 fun v98 r98 => kI v98 fun t => kNl r98 (∃ m e, numOk m e ∧ a = m * 10 ^ e.toNat ∧ b = 10 ^ (-e).toNat ∧ 1 ≤ dg ∧ dg ≤ 30 ∧ 0 ≤ t ∧ t ≤ 1000 ∧ Q (rndV m e dg t))
theorem rouSp_q {a : Int} {b : Int} {dg : Int} {t : Int} {Q : V → Prop} {X : Prop} : rouSp [.d (.int a), .d (.int b), .d (.int dg), .d (.int t)] Q X = (∃ m e, numOk m e ∧ a = m * 10 ^ e.toNat ∧ b = 10 ^ (-e).toNat ∧ 1 ≤ dg ∧ dg ≤ 30 ∧ 0 ≤ t ∧ t ≤ 1000 ∧ Q (rndV m e dg t)) := rfl
noncomputable def lrSp : Spec := fun ds Q X => kHd ds fun v99 r99 => kLst v99 fun xs => kHd r99 fun v100 r100 => kI v100 fun i => kHd r100 fun v101 r101 => kI v101 fun dg => kHd r101 fun v102 r102 => kI v102 fun t => kNl r102 ((intsOk xs ∧ 0 ≤ i ∧ i < 900 ∧ 1 ≤ dg ∧ dg ≤ 16 ∧ 1 ≤ t ∧ t ≤ 50) ∧ ∀ m e, numOk m e → Q (tupV (m, e)))
theorem lrSp_q {xs : List PyData} {i : Int} {dg : Int} {t : Int} {Q : V → Prop} {X : Prop} : lrSp [.d (.list xs), .d (.int i), .d (.int dg), .d (.int t)] Q X = ((intsOk xs ∧ 0 ≤ i ∧ i < 900 ∧ 1 ≤ dg ∧ dg ≤ 16 ∧ 1 ≤ t ∧ t ≤ 50) ∧ ∀ m e, numOk m e → Q (tupV (m, e))) := rfl

-- the part P6
theorem half_scale (a b c : Nat) (hc : 0 < c) : half (a * c) (b * c) = half a b := by
  unfold half
  rw [Nat.mul_div_mul_right _ _ hc, Nat.mul_mod_mul_right, ← Nat.mul_assoc]
  have e1 : (2 * (a % b) * c > b * c) ↔ (2 * (a % b) > b) := Nat.mul_lt_mul_right hc
  have e2 : (2 * (a % b) * c = b * c) ↔ (2 * (a % b) = b) := ⟨fun h => Nat.eq_of_mul_eq_mul_right hc h, fun h => by rw [h]⟩
  simp only [e1, e2]
theorem half_exact (a b : Nat) (hb : 0 < b) : half (a * b) b = a := by
  unfold half
  rw [Nat.mul_mod_left, Nat.mul_div_cancel _ hb, if_neg (by omega)]
theorem rou_plan {m e dg : Int} {N : Nat} (hm : m ≠ 0) (hN : IsNd m.natAbs N) (hdg : 1 ≤ dg) : ∃ s k zz : Nat,
    half (m.natAbs * 10 ^ e.toNat * 10 ^ (max 0 (dg - 1 - (N + e - 1))).toNat) (10 ^ (-e).toNat * 10 ^ (max 0 (-(dg - 1 - (N + e - 1)))).toNat) = s * 10 ^ zz ∧ s % 10 ≠ 0 ∧ IsNd s k ∧
    ∀ t, rnd m e dg t = leadO (N + e - 1 + ((k + zz : Nat) - dg)) t (if 0 < m then (s : Int) else -(s : Int)) (N + e - 1 + ((k + zz : Nat) - dg) - k + 1) := by
  generalize hx : (max 0 (dg - 1 - (N + e - 1))).toNat = x
  generalize hy : (max 0 (-(dg - 1 - (N + e - 1)))).toNat = y
  generalize hp : e.toNat = p
  generalize hq : (-e).toNat = q
  have hM : 0 < m.natAbs := by omega
  have hlow := hN.lo hM
  have sm : ∀ s : Nat, s % 10 ≠ 0 → (if 0 < m then (s : Int) else -(s : Int)) % 10 ≠ 0 := fun s hs => by split <;> omega
  have sa : ∀ s : Nat, (if 0 < m then (s : Int) else -(s : Int)).natAbs = s := fun s => by split <;> omega
  have cp : ∀ (s z : Nat), (((s * 10 ^ z : Nat)) : Int) = (s : Int) * 10 ^ z := fun s z => by simp
  by_cases hD : 0 < (N : Int) - dg
  · obtain ⟨D, hD'⟩ : ∃ D : Nat, (N : Int) - dg = D := ⟨(N - dg).toNat, by omega⟩
    have e1 : m.natAbs * 10 ^ p * 10 ^ x = m.natAbs * 10 ^ (p + x) := by rw [Nat.pow_add, Nat.mul_assoc]
    have e2 : 10 ^ q * 10 ^ y = 10 ^ D * 10 ^ (p + x) := by rw [← Nat.pow_add, ← Nat.pow_add]; congr 1; omega
    rw [e1, e2, half_scale _ _ _ (Nat.pow_pos (by decide))]
    have hPM : 10 ^ D ≤ m.natAbs := Nat.le_trans (Nat.pow_le_pow_right (by decide) (by omega)) hlow
    have h1 : 1 ≤ m.natAbs / 10 ^ D := (Nat.le_div_iff_mul_le (Nat.pow_pos (by decide))).mpr (by omega)
    have hR : 0 < half m.natAbs (10 ^ D) := by unfold half; split <;> omega
    obtain ⟨s, zz, hs, hs10⟩ := exists_strip _ hR
    obtain ⟨k, hk⟩ := exists_nd s
    refine ⟨s, k, zz, hs, hs10, hk, fun t => IsRnd.eq (.inr ⟨hm, N, _, zz, k, hN, ?_, sm s hs10, (sa s).symm ▸ hk, ?_⟩)⟩
    · unfold rto
      rw [if_pos hD, hD', Int.toNat_natCast]
      show (if 0 < m then (half m.natAbs (10 ^ D) : Int) else -(half m.natAbs (10 ^ D) : Int)) = _
      rw [hs, cp]
      split
      · rfl
      · rw [Int.neg_mul]
    · unfold rto
      rw [if_pos hD, hD']
      congr 1 <;> omega
  · obtain ⟨D, hD'⟩ : ∃ D : Nat, dg - (N : Int) = D := ⟨(dg - N).toNat, by omega⟩
    have e1 : m.natAbs * 10 ^ p * 10 ^ x = m.natAbs * 10 ^ D * (10 ^ q * 10 ^ y) := by
      rw [Nat.mul_assoc, Nat.mul_assoc, ← Nat.pow_add, ← Nat.pow_add, ← Nat.pow_add]; congr 2; omega
    rw [e1, half_exact _ _ (Nat.mul_pos (Nat.pow_pos (by decide)) (Nat.pow_pos (by decide)))]
    obtain ⟨s, z0, hs, hs10⟩ := exists_strip _ hM
    obtain ⟨k, hk⟩ := exists_nd s
    refine ⟨s, k, z0 + D, by rw [hs, Nat.mul_assoc, ← Nat.pow_add], hs10, hk, fun t => IsRnd.eq (.inr ⟨hm, N, _, z0, k, hN, ?_, sm s hs10, (sa s).symm ▸ hk, ?_⟩)⟩
    · unfold rto
      rw [if_neg hD]
      show m = _
      have c : ((m.natAbs : Nat) : Int) = (s : Int) * 10 ^ z0 := by rw [hs, cp]
      split
      · rw [← c]; omega
      · rw [Int.neg_mul, ← c]; omega
    · unfold rto
      rw [if_neg hD]
      congr 1 <;> omega

-- the part P7
/-! ## the order of two texts, sign by sign -/
noncomputable def ch (x : Str) (k : Nat) : Nat := if k < x.length then x.cps.getD k 0 else 32
noncomputable def padL (x : Str) (W : Nat) : List Nat := x.cps.toList ++ List.replicate (W - x.length) 32
theorem cps_len (x : Str) : x.cps.toList.length = x.length := Array.length_toList
theorem padL_len {x : Str} {W : Nat} (h : x.length ≤ W) : (padL x W).length = W := by
  unfold padL; rw [List.length_append, List.length_replicate, cps_len]; omega
theorem padL_get {x : Str} {W k : Nat} (hk : k < W) (h : k < (padL x W).length) : (padL x W)[k] = ch x k := by
  unfold ch
  have e : (padL x W)[k]? = some (if k < x.length then x.cps.getD k 0 else 32) := by
    unfold padL
    rw [List.getElem?_append, cps_len]
    split
    · rename_i c
      have : k < x.cps.size := c
      simp [Array.getD, this]
    · rw [List.getElem?_replicate, if_pos (by omega)]
  rw [List.getElem?_eq_getElem h] at e
  exact Option.some.inj e
theorem pad_text {x : Str} {W : Nat} {n : Int} (hn : n = (W : Int) - x.length) : (x ++ Txt.mul (Str.ofString " ") n).cps.toList = padL x W := by
  rw [cps_toList_append, blank, mul_one_list]
  unfold padL
  rw [show n.toNat = W - x.length by omega]
theorem lex_first {X Y : List Nat} {j : Nat} (hX : j < X.length) (hY : j < Y.length) (hp : ∀ i (a : i < X.length) (b : i < Y.length), i < j → X[i] = Y[i]) (h : X[j] < Y[j]) : X < Y :=
  List.lt_iff_exists.mpr (.inr ⟨j, hX, hY, fun i hi => hp i _ _ hi, h⟩)
theorem str_list {a b : Str} (h : a.cps.toList = b.cps.toList) : a = b := Str.ext' (Array.toList_inj.mp h)
theorem col_zero {x y : Str} (h : ∀ j, j < max x.length y.length → ch x j = ch y j) : colO x y = 0 := by
  unfold colO ordT
  refine if_pos (str_list ?_)
  rw [pad_text (W := max x.length y.length) (by omega), pad_text (W := max x.length y.length) (by omega)]
  refine List.ext_getElem (by rw [padL_len (by omega), padL_len (by omega)]) fun i h1 h2 => ?_
  have hi : i < max x.length y.length := by rw [padL_len (by omega)] at h1; exact h1
  rw [padL_get hi, padL_get hi]
  exact h i hi
theorem col_ne {x y : Str} {j : Nat} (hj : j < max x.length y.length) (h : ∀ i, i < j → ch x i = ch y i) (hne : ch x j ≠ ch y j) : colO x y = if ch x j < ch y j then -1 else 1 := by
  unfold colO ordT
  have eX : (x ++ Txt.mul (Str.ofString " ") (max (x.length : Int) y.length - x.length)).cps.toList = padL x (max x.length y.length) := pad_text (by omega)
  have eY : (y ++ Txt.mul (Str.ofString " ") (max (x.length : Int) y.length - y.length)).cps.toList = padL y (max x.length y.length) := pad_text (by omega)
  have lX : (padL x (max x.length y.length)).length = max x.length y.length := padL_len (by omega)
  have lY : (padL y (max x.length y.length)).length = max x.length y.length := padL_len (by omega)
  have hjX : j < (padL x (max x.length y.length)).length := by omega
  have hjY : j < (padL y (max x.length y.length)).length := by omega
  have gX := padL_get hj hjX
  have gY := padL_get hj hjY
  rw [if_neg, eX, eY]
  · by_cases c : ch x j < ch y j
    · rw [if_pos c, if_pos (lex_first hjX hjY (fun i a b hi => by rw [padL_get (by omega), padL_get (by omega)]; exact h i hi) (by rw [gX, gY]; exact c))]
    · have lt : padL y (max x.length y.length) < padL x (max x.length y.length) := lex_first hjY hjX (fun i a b hi => by rw [padL_get (by omega), padL_get (by omega)]; exact (h i hi).symm) (by rw [gX, gY]; omega)
      rw [if_neg c, if_neg (fun q => List.lt_asymm lt q)]
  · intro q
    have q' := congrArg (fun s : Str => s.cps.toList) q
    have eX' := eX.symm.trans (q'.trans eY)
    apply hne
    rw [← gX, ← gY]
    simp only [eX']
theorem upto_get {n j : Nat} {d : V} (h : (upto n)[j]? = some d) : j < n ∧ d = I j := by
  unfold upto at h
  rw [List.getElem?_map] at h
  cases q : (List.range n)[j]? with
  | none => rw [q] at h; cases h
  | some i =>
    rw [q] at h
    have hi := List.getElem?_eq_some_iff.mp q
    obtain ⟨h1, h2⟩ := hi
    rw [List.length_range] at h1
    rw [List.getElem_range] at h2
    subst h2
    exact ⟨h1, (Option.some.inj h).symm⟩
theorem upto_len (n : Nat) : (upto n).length = n := by unfold upto; rw [List.length_map, List.length_range]

-- the part P8
/-! ## what the law's body keeps, and what it hears -/
theorem seq_step {a b : XE} {σ : Sg} {P : Post} (Mid : Sg → Prop) (h1 : ∀ N : Sg → Prop, (∀ τ, Mid τ → N τ) → a σ ⟨N, P.ret, P.brk, P.cont, P.exc⟩) (h2 : ∀ τ, Mid τ → b τ P) : XE.seq a b σ P := h1 _ h2
noncomputable def Keep : List (String × V) → Sg → Prop
  | [], _ => True
  | (x, v) :: r, τ => τ (Str.ofString x) = some v ∧ Keep r τ
theorem ofString_ne {a b : String} (h : a ≠ b) : Str.ofString a ≠ Str.ofString b := by
  intro q
  apply h
  rw [Str.ofString_eq_toList, Str.ofString_eq_toList] at q
  have h1 : a.toList.map Char.toNat = b.toList.map Char.toNat := by simpa using congrArg (fun s : Str => s.cps.toList) q
  have inj : ∀ (l m : List Char), l.map Char.toNat = m.map Char.toNat → l = m := by
    intro l
    induction l with
    | nil => intro m h; cases m with | nil => rfl | cons _ _ => cases h
    | cons c l ih =>
      intro m h
      cases m with
      | nil => cases h
      | cons d m =>
        rw [List.map_cons, List.map_cons] at h
        obtain ⟨h1, h2⟩ := List.cons.inj h
        rw [ih m h2, show c = d from Char.ext (UInt32.toNat_inj.mp h1)]
  exact String.toList_inj.mp (inj _ _ h1)
theorem Keep.upd {z : String} {v : V} {τ : Sg} : ∀ {l : List (String × V)}, (l.all fun p => p.1 != z) = true → Keep l τ → Keep l (upd τ (Str.ofString z) v)
  | [], _, _ => trivial
  | (x, w) :: r, h, ⟨h1, h2⟩ => by
    rw [List.all_cons, Bool.and_eq_true] at h
    refine ⟨?_, Keep.upd h.2 h2⟩
    rw [upd_ne (ofString_ne (by simpa using h.1))]
    exact h1
theorem Keep.new {z : String} {v : V} {τ : Sg} {l : List (String × V)} (h : (l.all fun p => p.1 != z) = true) (k : Keep l τ) : Keep ((z, v) :: l) (Mine.upd τ (Str.ofString z) v) := ⟨upd_same, k.upd h⟩

theorem forP_mem {bind : BindE} {b : XE} {P : Post} (Inv : Sg → Prop) {items : List V} {σ : Sg} (h0 : Inv σ)
    (hs : ∀ d ∈ items, ∀ τ, Inv τ → ∀ N : Sg → Prop, (∀ τ', Inv τ' → N τ') → bind d τ fun τ' => b τ' ⟨N, P.ret, P.next, N, P.exc⟩) (he : ∀ τ, Inv τ → P.next τ) : forP bind b items σ P :=
  forP_inv (fun _ => Inv) items 0 σ h0 (fun j d τ hj hi N hN => hs d (List.mem_of_getElem? hj) τ hi N hN) he
theorem oneL_opt {o : Option PyData} {Q : V → Prop} (h : Q (optL o)) : optP o V.d (oneL Q) (Q (.d (.list []))) := by
  cases o with
  | none => exact h
  | some a => exact h
theorem oneL_optI {o : Option Int} {Q : V → Prop} (h : Q (optL (o.map .int))) : optP o I (oneL Q) (Q (.d (.list []))) := by
  cases o with
  | none => exact h
  | some a => exact h
theorem ne_same {x : PyData} {Q : V → Prop} (hx : ∃ l, x = .list l) (h1 : x.canLay0 = true) (h2 : x.depth ≤ 64) (h : Q (B false)) : cmpP .NotEq (.d x) (.d x) Q := by
  obtain ⟨l, rfl⟩ := hx
  exact ⟨rfl, h1, h2, h⟩
theorem eq_same {x : PyData} {Q : V → Prop} (hx : ∃ l, x = .list l) (h1 : x.canLay0 = true) (h2 : x.depth ≤ 64) (h : Q (B true)) : cmpP .Eq (.d x) (.d x) Q := by
  obtain ⟨l, rfl⟩ := hx
  exact ⟨rfl, h1, h2, h⟩
theorem ne_optI {o : Option Int} {Q : V → Prop} (h : Q (B false)) : cmpP .NotEq (optL (o.map .int)) (optL (o.map .int)) Q := by
  refine ne_same (x := .list (o.map PyData.int).toList) ⟨_, rfl⟩ ?_ ?_ h
  · cases o <;> rfl
  · cases o <;> exact Nat.le_of_ble_eq_true rfl
theorem inv_tdiv {x n : Int} (hn : n < 0) (hx : x ≠ 0) : invO x n = some ((1 : Int).tdiv (x ^ (-n).toNat)) := by
  unfold invO
  rw [if_neg hx]
  congr 1
  obtain ⟨k, hk⟩ : ∃ k : Nat, (-n).toNat = k + 1 := ⟨(-n).toNat - 1, by omega⟩
  by_cases h1 : x = 1
  · rw [if_pos (.inl h1), h1, Int.one_pow]; rfl
  · by_cases h2 : x = -1
    · subst h2
      rw [fmod_pos (by decide)]
      by_cases h3 : n % 2 = 0
      · obtain ⟨j, hj⟩ : ∃ j : Nat, (-n).toNat = 2 * j := ⟨(-n).toNat / 2, by omega⟩
        rw [if_pos (.inr ⟨rfl, h3⟩), hj, neg_one_even]; rfl
      · obtain ⟨j, hj⟩ : ∃ j : Nat, (-n).toNat = 2 * j + 1 := ⟨(-n).toNat / 2, by omega⟩
        rw [if_neg (by rintro (q | q); exact h1 q; exact h3 q.2), if_pos rfl, hj, Int.pow_succ, neg_one_even]; rfl
    · rw [if_neg (by rintro (q | q); exact h1 q; exact h2 q.1), if_neg h2]
      have hb : 2 ≤ x.natAbs := by omega
      have hp : 2 ≤ (x ^ (-n).toNat).natAbs := by
        rw [hk, Int.natAbs_pow, Nat.pow_succ]
        have : 1 ≤ x.natAbs ^ k := Nat.pow_pos (by omega)
        have := Nat.mul_le_mul this hb
        omega
      have e : ((1 : Int).tdiv (x ^ (-n).toNat)).natAbs = 0 := by
        rw [Int.natAbs_tdiv]
        exact Nat.div_eq_of_lt (by show 1 < _; omega)
      omega
theorem whole_pow {x n w : Int} : wholeO "pow" x n w = powO x n w := by
  unfold wholeO powO
  rw [if_neg (by decide +kernel), if_neg (by decide +kernel), if_neg (by decide +kernel), if_neg (by decide +kernel)]
  by_cases h : n < 0
  · rw [if_neg (by omega), if_pos h]
    by_cases h0 : x = 0
    · rw [if_pos h0, h0]; unfold invO; rw [if_pos rfl]
    · rw [if_neg h0, inv_tdiv h h0]
  · rw [if_pos (by omega), if_neg h]
theorem heard_int {op : Str} {x y w r d t : Int} {Q : V → Prop} {X : Prop} (hl : limOk w r d t) (hx : x.natAbs < 2 ^ 60) (hy : y.natAbs < 2 ^ 60) (ho : op = "add" ∨ op = "sub" ∨ op = "mul" ∨ op = "div") (h : Q (optL ((wholeO op x y w).map .int))) :
    hdSp [I 0, S op, I 0, I x, I y, .lim w r d t] Q X := by
  have e : binI op x y w = (wholeO op x y w).map .int := by
    rcases ho with rfl | rfl | rfl | rfl
    · unfold binI; rw [if_pos rfl]; unfold wholeO; rw [if_pos rfl]
    · unfold binI; rw [if_neg (by decide +kernel), if_pos rfl]; unfold wholeO; rw [if_neg (by decide +kernel), if_pos rfl]
    · unfold binI; rw [if_neg (by decide +kernel), if_neg (by decide +kernel), if_pos rfl]; unfold wholeO; rw [if_neg (by decide +kernel), if_neg (by decide +kernel), if_pos rfl]
    · have e2 : wholeO "div" x y w = if y = 0 then none else fitO (x.tdiv y) w := by unfold wholeO; rw [if_neg (by decide +kernel), if_neg (by decide +kernel), if_neg (by decide +kernel), if_pos rfl]
      unfold binI; rw [e2, if_neg (by decide +kernel), if_neg (by decide +kernel), if_neg (by decide +kernel), if_pos rfl]
  refine .inl ⟨rfl, .inl ⟨rfl, ⟨hl, hx, by omega, fun q => ?_⟩, ?_⟩⟩
  · rcases ho with rfl | rfl | rfl | rfl <;> exact absurd q (by decide +kernel)
  · rw [e]; exact oneL_opt h
theorem heard_pow {x y w r d t : Int} {Q : V → Prop} {X : Prop} (hl : limOk w r d t) (hx : x.natAbs < 2 ^ 60) (hy : y ≤ 1000) (h : Q (optL ((wholeO "pow" x y w).map .int))) :
    hdSp [I 0, S "powi", I 0, I x, I y, .lim w r d t] Q X := by
  have e : binI "powi" x y w = (wholeO "pow" x y w).map .int := by
    rw [whole_pow]
    unfold binI
    rw [if_neg (by decide +kernel), if_neg (by decide +kernel), if_neg (by decide +kernel), if_neg (by decide +kernel), if_pos (.inr rfl)]
  refine .inl ⟨rfl, .inl ⟨rfl, ⟨hl, hx, by omega, fun q => hy⟩, ?_⟩⟩
  rw [e]; exact oneL_opt h
theorem heard_cat {x y : Str} {w r d t : Int} {Q : V → Prop} {X : Prop} (hx : x.length ≤ 100) (hy : y.length ≤ 100) (h : Q (.d (.list [.str (x ++ y)]))) : hdSp [I 0, S "cat", I 5, S x, S y, .lim w r d t] Q X := by
  refine .inl ⟨rfl, .inr ⟨rfl, ⟨hx, hy⟩, ?_⟩⟩
  unfold binT
  rw [if_pos rfl]
  exact oneL_opt (o := some _) h
/-- the six relations of two things in the order o -/
theorem rel_rows {op : Str} {o : Int} {b : Bool} (h : (op, b) ∈ relRows o) : relB op o = some b := by
  unfold relRows at h
  simp only [List.mem_cons, Prod.mk.injEq, List.not_mem_nil, or_false] at h
  unfold relB
  rcases h with ⟨rfl, rfl⟩ | ⟨rfl, rfl⟩ | ⟨rfl, rfl⟩ | ⟨rfl, rfl⟩ | ⟨rfl, rfl⟩ | ⟨rfl, rfl⟩
  · rw [if_pos rfl]
  · rw [if_neg (by decide +kernel), if_pos rfl]
  · rw [if_neg (by decide +kernel), if_neg (by decide +kernel), if_pos rfl]
  · rw [if_neg (by decide +kernel), if_neg (by decide +kernel), if_neg (by decide +kernel), if_pos rfl]
  · rw [if_neg (by decide +kernel), if_neg (by decide +kernel), if_neg (by decide +kernel), if_neg (by decide +kernel), if_pos rfl]
  · rw [if_neg (by decide +kernel), if_neg (by decide +kernel), if_neg (by decide +kernel), if_neg (by decide +kernel), if_neg (by decide +kernel), if_pos rfl]
theorem rel_op {op : Str} {o : Int} {b : Bool} (h : (op, b) ∈ relRows o) : op ≠ "add" ∧ op ≠ "sub" ∧ op ≠ "mul" ∧ op ≠ "div" ∧ op ≠ "pow" ∧ op ≠ "powi" ∧ op ≠ "cat" := by
  unfold relRows at h
  simp only [List.mem_cons, Prod.mk.injEq, List.not_mem_nil, or_false] at h
  rcases h with ⟨rfl, _⟩ | ⟨rfl, _⟩ | ⟨rfl, _⟩ | ⟨rfl, _⟩ | ⟨rfl, _⟩ | ⟨rfl, _⟩ <;> decide +kernel
theorem heard_relI {op : Str} {x y w r d t : Int} {b : Bool} {Q : V → Prop} {X : Prop} (hl : limOk w r d t) (hx : x.natAbs < 2 ^ 60) (hy : y.natAbs < 2 ^ 60) (ho : (op, b) ∈ relRows (ordI x y)) (h : Q (.d (.list [.bool b]))) :
    hdSp [I 0, S op, I 0, I x, I y, .lim w r d t] Q X := by
  obtain ⟨n1, n2, n3, n4, n5, n6, _⟩ := rel_op ho
  refine .inl ⟨rfl, .inl ⟨rfl, ⟨hl, hx, by omega, fun q => ?_⟩, ?_⟩⟩
  · rcases q with q | q
    · exact absurd q n5
    · exact absurd q n6
  · unfold binI
    rw [if_neg n1, if_neg n2, if_neg n3, if_neg n4, if_neg (by rintro (q | q); exact n5 q; exact n6 q), rel_rows ho]
    exact oneL_opt (o := some _) h
theorem heard_relT {op : Str} {x y : Str} {w r d t : Int} {b : Bool} {Q : V → Prop} {X : Prop} (hx : x.length ≤ 100) (hy : y.length ≤ 100) (ho : (op, b) ∈ relRows (colO x y)) (h : Q (.d (.list [.bool b]))) :
    hdSp [I 0, S op, I 5, S x, S y, .lim w r d t] Q X := by
  obtain ⟨n1, n2, n3, n4, n5, n6, n7⟩ := rel_op ho
  refine .inl ⟨rfl, .inr ⟨rfl, ⟨hx, hy⟩, ?_⟩⟩
  unfold binT
  rw [if_neg n7, rel_rows ho]
  exact oneL_opt (o := some _) h
theorem heard_conv {v : PyData} {k to w r d t : Int} {Q : V → Prop} {X : Prop} {op : V} (hl : limOk w r d t) (hk : okv k v) (h1 : 0 ≤ to) (h2 : to ≤ 5) (h : Q (optL (convO k to v w r d t))) : hdSp [I 1, op, I k, .d v, I to, .lim w r d t] Q X :=
  .inr (.inl ⟨rfl, ⟨hl, hk, h1, h2⟩, oneL_opt h⟩)
theorem heard_neg {x w r d t : Int} {y : V} {Q : V → Prop} {X : Prop} (h1 : 1 ≤ w) (h2 : w ≤ 1000) (h : Q (optL ((fitO (-x) w).map .int))) : hdSp [I 2, S "neg", I 0, I x, y, .lim w r d t] Q X :=
  .inr (.inr ⟨rfl, .inr (.inl ⟨rfl, rfl, x, rfl, ⟨h1, h2⟩, oneL_optI h⟩)⟩)
theorem heard_not {b : Bool} {w r d t : Int} {y : V} {Q : V → Prop} {X : Prop} (h : Q (.d (.list [.bool !b]))) : hdSp [I 2, S "not", I 4, B b, y, .lim w r d t] Q X :=
  .inr (.inr ⟨rfl, .inl ⟨rfl, rfl, b, rfl, h⟩⟩)
theorem heard_negR {m e w r d t : Int} {y : V} {Q : V → Prop} {X : Prop} (h : Q (.d (.list [.tuple [.int (-m), .int e]]))) : hdSp [I 2, S "neg", I 2, .d (.tuple [.int m, .int e]), y, .lim w r d t] Q X :=
  .inr (.inr ⟨rfl, .inr (.inr ⟨rfl, rfl, m, e, rfl, h⟩)⟩)

-- the part N2
theorem ofString_inj (a b : String) : (Str.ofString a = Str.ofString b) = (a = b) := by
  refine propext ⟨fun h => ?_, fun h => by rw [h]⟩
  rw [Str.ofString_eq_toList, Str.ofString_eq_toList] at h
  have h1 : a.toList.map Char.toNat = b.toList.map Char.toNat := by
    have := congrArg (fun s : Str => s.cps.toList) h
    simpa using this
  have h2 : a.toList = b.toList := by
    have inj : ∀ (l m : List Char), l.map Char.toNat = m.map Char.toNat → l = m := by
      intro l
      induction l with
      | nil => intro m h; cases m with | nil => rfl | cons _ _ => cases h
      | cons c l ih =>
        intro m h
        cases m with
        | nil => cases h
        | cons d m =>
          rw [List.map_cons, List.map_cons] at h
          obtain ⟨h1, h2⟩ := List.cons.inj h
          rw [ih m h2, show c = d from Char.ext (UInt32.toNat_inj.mp h1)]
    exact inj _ _ h1
  exact String.toList_inj.mp h2

theorem gl0 (σ : Sg) (Q : V → Prop) (X : Prop) : SE.glob (Str.ofString "INTEGER") σ Q X = Q (I 0) := by
  have e : GD (Str.ofString "INTEGER") = some (I 0) := by unfold GD; simp only [ofString_inj, String.reduceEq, if_true, if_false]
  simp only [SE.glob, e, Option.some.injEq, exists_eq_left']
theorem gl1 (σ : Sg) (Q : V → Prop) (X : Prop) : SE.glob (Str.ofString "REAL") σ Q X = Q (I 1) := by
  have e : GD (Str.ofString "REAL") = some (I 1) := by unfold GD; simp only [ofString_inj, String.reduceEq, if_true, if_false]
  simp only [SE.glob, e, Option.some.injEq, exists_eq_left']
theorem gl2 (σ : Sg) (Q : V → Prop) (X : Prop) : SE.glob (Str.ofString "DOUBLE") σ Q X = Q (I 2) := by
  have e : GD (Str.ofString "DOUBLE") = some (I 2) := by unfold GD; simp only [ofString_inj, String.reduceEq, if_true, if_false]
  simp only [SE.glob, e, Option.some.injEq, exists_eq_left']
theorem gl3 (σ : Sg) (Q : V → Prop) (X : Prop) : SE.glob (Str.ofString "COMPLEX") σ Q X = Q (I 3) := by
  have e : GD (Str.ofString "COMPLEX") = some (I 3) := by unfold GD; simp only [ofString_inj, String.reduceEq, if_true, if_false]
  simp only [SE.glob, e, Option.some.injEq, exists_eq_left']
theorem gl4 (σ : Sg) (Q : V → Prop) (X : Prop) : SE.glob (Str.ofString "LOGICAL") σ Q X = Q (I 4) := by
  have e : GD (Str.ofString "LOGICAL") = some (I 4) := by unfold GD; simp only [ofString_inj, String.reduceEq, if_true, if_false]
  simp only [SE.glob, e, Option.some.injEq, exists_eq_left']
theorem gl5 (σ : Sg) (Q : V → Prop) (X : Prop) : SE.glob (Str.ofString "CHARACTER") σ Q X = Q (I 5) := by
  have e : GD (Str.ofString "CHARACTER") = some (I 5) := by unfold GD; simp only [ofString_inj, String.reduceEq, if_true, if_false]
  simp only [SE.glob, e, Option.some.injEq, exists_eq_left']
theorem gl6 (σ : Sg) (Q : V → Prop) (X : Prop) : SE.glob (Str.ofString "NOUGHT") σ Q X = Q (.d (.tuple [.int 0, .int 0])) := by
  have e : GD (Str.ofString "NOUGHT") = some (.d (.tuple [.int 0, .int 0])) := by unfold GD; simp only [ofString_inj, String.reduceEq, if_true, if_false]
  simp only [SE.glob, e, Option.some.injEq, exists_eq_left']

noncomputable def BindN (s : Shared) (fd : FuncData) (ps : List Str) : Nat → Prop
  | 1 => ∀ a, BindsTo s fd ⟨[a], []⟩ (ps.zip [a])
  | 2 => ∀ a b, BindsTo s fd ⟨[a, b], []⟩ (ps.zip [a, b])
  | 3 => ∀ a b c, BindsTo s fd ⟨[a, b, c], []⟩ (ps.zip [a, b, c])
  | 4 => ∀ a b c d, BindsTo s fd ⟨[a, b, c, d], []⟩ (ps.zip [a, b, c, d])
  | 5 => ∀ a b c d e, BindsTo s fd ⟨[a, b, c, d, e], []⟩ (ps.zip [a, b, c, d, e])
  | 6 => ∀ a b c d e f, BindsTo s fd ⟨[a, b, c, d, e, f], []⟩ (ps.zip [a, b, c, d, e, f])
  | _ => False
theorem BindN.any {s : Shared} {fd : FuncData} {ps : List Str} : ∀ {n : Nat}, BindN s fd ps n → ∀ vs : List Value, vs.length = n → BindsTo s fd ⟨vs, []⟩ (ps.zip (vs ++ []))
  | 1, h, [a], _ => h a
  | 2, h, [a, b], _ => h a b
  | 3, h, [a, b, c], _ => h a b c
  | 4, h, [a, b, c, d], _ => h a b c d
  | 5, h, [a, b, c, d, e], _ => h a b c d e
  | 6, h, [a, b, c, d, e, f], _ => h a b c d e f
/-- a def without defaults -/
theorem OK.mk1 {cx : Cx} {k : Nat} {x : Str} {a : Addr} {oc : Value} {od : Option Addr} {osl : Array (Option Value)} {name qual : Str} {params : Arguments} {body : List Stmt} {scope : Scope} {dV kV doc pm cdv ct : Value} {an : Option Addr} {T : XE} {Sp : Spec}
    (hns : nsIn cx.K mainGlobals x = some (some (.ref a))) (hkeep : keepIn cx.K (.ref a) = true)
    (ho : cx.K.lookup a = some ⟨oc, od, .func (fnOf name qual params body scope dV kV doc pm an cdv ct), osl⟩) (hcd : codeIn cx.K cdv qual = true)
    (hbind : ∀ s : Shared, BindN s (fnOf name qual params body scope dV kV doc pm an cdv ct) (params.args.map (·.arg)) params.args.length)
    (hloc : ((params.args.map (·.arg)).all fun y => decide (scope.names.lookup y = some .local)) = true)
    (hcell : ∀ x ∈ scope.names, x.2 ≠ .cell) (hco : scope.isCoroutine = false) (hgen : scope.isGenerator = false) (hk : scope.kind = .function)
    (hT : SL cx k scope body T) (hS : ∀ ds Q X, Sp ds Q X → ds.length = params.args.length ∧ T (bindS (params.args.map (·.arg)) ds fun _ => none) (funPost Q X)) : OK cx (k + 1) x Sp :=
  OK.mk (dds := []) (dvs := []) hns hkeep ho hcd (fun s vs _ h => (hbind s).any vs h) (fun _ _ => trivial) hloc hcell hco hgen hk hT fun ds Q X h => by rw [List.append_nil]; exact hS ds Q X h
/-- the same; the parts of the def are first brought into their written form -/
theorem OK.mk1e {cx : Cx} {k : Nat} {x : Str} {a : Addr} {oc : Value} {od : Option Addr} {osl : Array (Option Value)} {name qual : Str} {params params' : Arguments} {body body' : List Stmt} {scope scope' : Scope} {dV kV doc pm cdv ct : Value} {an : Option Addr} {T : XE} {Sp : Spec}
    (hns : nsIn cx.K mainGlobals x = some (some (.ref a))) (hkeep : keepIn cx.K (.ref a) = true)
    (ho : cx.K.lookup a = some ⟨oc, od, .func (fnOf name qual params' body' scope' dV kV doc pm an cdv ct), osl⟩) (hcd : codeIn cx.K cdv qual = true)
    (e1 : params' = params) (e2 : body' = body) (e3 : scope' = scope)
    (hbind : ∀ s : Shared, BindN s (fnOf name qual params body scope dV kV doc pm an cdv ct) (params.args.map (·.arg)) params.args.length)
    (hloc : ((params.args.map (·.arg)).all fun y => decide (scope.names.lookup y = some .local)) = true)
    (hcell : ∀ x ∈ scope.names, x.2 ≠ .cell) (hco : scope.isCoroutine = false) (hgen : scope.isGenerator = false) (hk : scope.kind = .function)
    (hT : SL cx k scope body T) (hS : ∀ ds Q X, Sp ds Q X → ds.length = params.args.length ∧ T (bindS (params.args.map (·.arg)) ds fun _ => none) (funPost Q X)) : OK cx (k + 1) x Sp := by
  subst e1 e2 e3
  exact OK.mk1 hns hkeep ho hcd hbind hloc hcell hco hgen hk hT hS
/-- a def that has no reachable use -/
theorem OK.never {cx : Cx} {k : Nat} {x : Str} {a : Addr} (hns : nsIn cx.K mainGlobals x = some (some (.ref a))) (hkeep : keepIn cx.K (.ref a) = true) : OK cx k x (fun _ _ _ => False) :=
  ⟨a, hns, hkeep, fun _ _ _ h => h.elim⟩
section
variable {cx : Cx} {k : Nat} {sc : Scope}
theorem idEv {e T} (h : Ev cx k sc e T) : Ev cx k sc e T := h
theorem idSs {e T} (h : Ss cx k sc e T) : Ss cx k sc e T := h
theorem idSL {e T} (h : SL cx k sc e T) : SL cx k sc e T := h
theorem idEvs {e T} (h : Evs cx k sc e T) : Evs cx k sc e T := h
theorem idTs {e T} (h : Ts cx k sc e T) : Ts cx k sc e T := h
theorem idTall {o e T} (h : Tall cx k sc o e T) : Tall cx k sc o e T := h
theorem idAs {e T} (h : As cx k sc e T) : As cx k sc e T := h
theorem idEvd {e T} (h : Evd cx k sc e T) : Evd cx k sc e T := h
theorem idP {p : Prop} (h : p) : p := h
theorem Ev.takeI {x np n cp sp pos a} {i : Int} (h0 : 0 ≤ i) (ha : Ev cx k sc (.Name x np) a) (hs : ∀ o j, subscripted (.Slice Option.none (some (.Constant (.int i) n cp)) Option.none sp) false o j = operate [j, o] (getItem o j)) :
    Ev cx k sc (.Subscript (.Name x np) (.Slice Option.none (some (.Constant (.int i) n cp)) Option.none sp) pos) (SE.take i.toNat a) := by
  obtain ⟨c, rfl⟩ := Int.eq_ofNat_of_zero_le h0
  exact Ev.take ha hs
theorem Ev.dict6 {x1 n1 p1 e1 x2 n2 p2 e2 x3 n3 p3 e3 x4 n4 p4 e4 x5 n5 p5 e5 x6 n6 p6 e6 pos a b c d e f} (ha : Ev cx k sc e1 a) (hb : Ev cx k sc e2 b) (hc : Ev cx k sc e3 c) (hd : Ev cx k sc e4 d) (he : Ev cx k sc e5 e) (hf : Ev cx k sc e6 f)
    (hn : ([x1, x2, x3, x4, x5, x6] : List Str).Nodup)
    (hshape : ∀ env, (evalEachOpt [some (.Constant (.str x1) n1 p1), some (.Constant (.str x2) n2 p2), some (.Constant (.str x3) n3 p3), some (.Constant (.str x4) n4 p4), some (.Constant (.str x5) n5 p5), some (.Constant (.str x6) n6 p6)] env).zip ((evalEach [e1, e2, e3, e4, e5, e6] env).map fun v => do let x ← v; standAt pos; pure x)
      = (pairsOf [(x1, n1, p1, e1), (x2, n2, p2, e2), (x3, n3, p3, e3), (x4, n4, p4, e4), (x5, n5, p5, e5), (x6, n6, p6, e6)] env pos).map fun p => (some p.1, p.2)) :
    Ev cx k sc (.Dict [some (.Constant (.str x1) n1 p1), some (.Constant (.str x2) n2 p2), some (.Constant (.str x3) n3 p3), some (.Constant (.str x4) n4 p4), some (.Constant (.str x5) n5 p5), some (.Constant (.str x6) n6 p6)] [e1, e2, e3, e4, e5, e6] pos)
      (SE.dict [x1, x2, x3, x4, x5, x6] (LE.cons a (LE.cons b (LE.cons c (LE.cons d (LE.cons e (LE.cons f fun _ Q _ => Q []))))))) :=
  Ev.dict (ps := [(x1, n1, p1, e1), (x2, n2, p2, e2), (x3, n3, p3, e3), (x4, n4, p4, e4), (x5, n5, p5, e5), (x6, n6, p6, e6)]) (.cons ha (.cons hb (.cons hc (.cons hd (.cons he (.cons hf .nil)))))) hn (by simp) (by simp) hshape
end

-- the part N3
theorem setup_N3 : True := by
  k_with "E" => first
    | with_reducible exact Ev.int
    | ((with_reducible refine' Ev.loc ?_ ?_); (k_extra "P"); (focus (decide +kernel)); (k_extra "P"); (focus (kernel_rfl)))
    | ((with_reducible refine' Ev.glob ?_ ?_); (k_extra "P"); (focus (decide +kernel)); (k_extra "P"); (focus (kernel_rfl)))
    | ((with_reducible refine' Ev.bin ?_ ?_); (k_extra "P"); (focus (k_extra "E")); (k_extra "P"); (focus (k_extra "E")))
    | ((with_reducible refine' Ev.call ?_ ?_ ?_ ?_ ?_ ?_); (k_extra "P"); (focus (assumption)); (k_extra "P"); (focus (k_extra "A")); (k_extra "P"); (focus (rfl)); (k_extra "P"); (focus (rfl)); (k_extra "P"); (focus (exact fun _ => rfl)); (k_extra "P"); (focus (exact fun _ => rfl)))
    | ((with_reducible refine' Ev.callB ?_ ?_ ?_ ?_ ?_ ?_ ?_ ?_); (k_extra "P"); (focus (first | exact bn_abs (by assumption) | exact bn_max (by assumption) | exact bn_min (by assumption) | exact bn_divmod (by assumption) | exact bn_len (by assumption) | exact bn_ord (by assumption) | exact bn_str (by assumption) | exact bn_int (by assumption) | exact bn_range (by assumption))); (k_extra "P"); (focus (first | exact prim_abs | exact prim_max | exact prim_min | exact prim_divmod | exact prim_len | exact prim_ord | exact prim_str | exact prim_int | exact prim_range)); (k_extra "P"); (focus (k_extra "A")); (k_extra "P"); (focus (rfl)); (k_extra "P"); (focus (rfl)); (k_extra "P"); (focus (first | exact .inl ⟨_, rfl⟩ | exact .inr ⟨_, rfl⟩)); (k_extra "P"); (focus (exact fun _ => rfl)); (k_extra "P"); (focus (exact fun _ => rfl)))
    | with_reducible exact Ev.str
    | with_reducible exact Ev.bool
    | with_reducible exact Ev.none
    | ((with_reducible refine' Ev.tuple ?_ ?_); (k_extra "P"); (focus (k_extra "A")); (k_extra "P"); (focus (exact Nat.le_of_ble_eq_true rfl)))
    | ((with_reducible refine' Ev.list ?_ ?_); (k_extra "P"); (focus (k_extra "A")); (k_extra "P"); (focus (exact Nat.le_of_ble_eq_true rfl)))
    | ((with_reducible refine' Ev.attr ?_ ?_); (k_extra "P"); (focus (exact limIs (by assumption))); (k_extra "P"); (focus (k_extra "E")))
    | ((with_reducible refine' Ev.takeI ?_ ?_ ?_); (k_extra "P"); (focus (decide)); (k_extra "P"); (focus (k_extra "E")); (k_extra "P"); (focus (exact fun _ _ => rfl)))
    | ((with_reducible refine' Ev.subStr ?_ ?_); (k_extra "P"); (focus (k_extra "E")); (k_extra "P"); (focus (exact fun _ _ => rfl)))
    | ((with_reducible refine' Ev.sub ?_ ?_ ?_); (k_extra "P"); (focus (k_extra "E")); (k_extra "P"); (focus (k_extra "E")); (k_extra "P"); (focus (exact fun _ _ => rfl)))
    | ((with_reducible refine' Ev.neg ?_); (k_extra "P"); (focus (k_extra "E")))
    | ((with_reducible refine' Ev.not ?_); (k_extra "P"); (focus (k_extra "E")))
    | ((with_reducible refine' Ev.ite ?_ ?_ ?_); (k_extra "P"); (focus (k_extra "T")); (k_extra "P"); (focus (k_extra "E")); (k_extra "P"); (focus (k_extra "E")))
    | ((with_reducible refine' Ev.cmp ?_ ?_ ?_); (k_extra "P"); (focus (k_extra "E")); (k_extra "P"); (focus (k_extra "E")); (k_extra "P"); (focus (rfl)))
    | ((with_reducible refine' Ev.rstrip ?_ ?_ ?_ ?_ ?_); (k_extra "P"); (focus (k_extra "E")); (k_extra "P"); (focus (k_extra "E")); (k_extra "P"); (focus (exact fun _ => rfl)); (k_extra "P"); (focus (exact fun _ => rfl)); (k_extra "P"); (focus (rfl)))
    | ((with_reducible refine' Ev.lim ?_ ?_ ?_ ?_ ?_); (k_extra "P"); (focus (exact limIs (by assumption))); (k_extra "P"); (focus (k_extra "A")); (k_extra "P"); (focus (rfl)); (k_extra "P"); (focus (exact fun _ => rfl)); (k_extra "P"); (focus (exact fun _ => rfl)))
    | ((with_reducible refine' Ev.dict6 ?_ ?_ ?_ ?_ ?_ ?_ ?_ ?_); (k_extra "P"); (focus (k_extra "E")); (k_extra "P"); (focus (k_extra "E")); (k_extra "P"); (focus (k_extra "E")); (k_extra "P"); (focus (k_extra "E")); (k_extra "P"); (focus (k_extra "E")); (k_extra "P"); (focus (k_extra "E")); (k_extra "P"); (focus (decide)); (k_extra "P"); (focus (exact fun _ => rfl)))
  k_with "S" => first
    | ((with_reducible refine' Ss.assign ?_ ?_ ?_); (k_extra "P"); (focus (k_extra "E")); (k_extra "P"); (focus (rfl)); (k_extra "P"); (focus (exact fun _ _ => rfl)))
    | ((with_reducible refine' Ss.ite ?_ ?_ ?_); (k_extra "P"); (focus (k_extra "T")); (k_extra "P"); (focus (k_extra "L")); (k_extra "P"); (focus (k_extra "L")))
    | ((with_reducible refine' Ss.ret ?_); (k_extra "P"); (focus (k_extra "E")))
    | ((with_reducible refine' Ss.aug ?_ ?_); (k_extra "P"); (focus (k_extra "E")); (k_extra "P"); (focus (rfl)))
    | ((with_reducible refine' Ss.raiseRF ?_ ?_); (k_extra "P"); (focus (exact rfIs (by assumption))); (k_extra "P"); (focus (rfl)))
    | ((with_reducible refine' Ss.for ?_ ?_ ?_ ?_ ?_); (k_extra "P"); (focus (k_extra "E")); (k_extra "P"); (focus (k_extra "F")); (k_extra "P"); (focus (k_extra "L")); (k_extra "P"); (focus (exact fun _ _ => rfl)); (k_extra "P"); (focus (exact fun _ _ => rfl)))
    | ((with_reducible refine' Ss.forT ?_ ?_ ?_ ?_); (k_extra "P"); (focus (k_extra "E")); (k_extra "P"); (focus (k_extra "F")); (k_extra "P"); (focus (k_extra "L")); (k_extra "P"); (focus (exact fun _ _ => rfl)))
    | ((with_reducible refine' Ss.while ?_ ?_); (k_extra "P"); (focus (k_extra "T")); (k_extra "P"); (focus (k_extra "L")))
    | ((with_reducible refine' Ss.unpack2 ?_ ?_ ?_ ?_ ?_); (k_extra "P"); (focus (k_extra "E")); (k_extra "P"); (focus (rfl)); (k_extra "P"); (focus (rfl)); (k_extra "P"); (focus (exact fun _ _ => rfl)); (k_extra "P"); (focus (exact fun _ => rfl)))
    | ((with_reducible refine' Ss.tryRF ?_ ?_ ?_); (k_extra "P"); (focus (exact rfIs (by assumption))); (k_extra "P"); (focus (k_extra "L")); (k_extra "P"); (focus (rfl)))
  k_with "L" => first
    | ((with_reducible refine' SL.texts ?_ ?_ ?_ ?_ ?_ ?_ ?_ ?_ ?_ ?_ ?_ ?_ ?_); (k_extra "P"); (focus (k_extra "E")); (k_extra "P"); (focus (k_extra "S")); (k_extra "P"); (focus (k_extra "S")); (k_extra "P"); (focus (k_extra "L")); (k_extra "P"); (focus (rfl)); (k_extra "P"); (focus (rfl)); (k_extra "P"); (focus (rfl)); (k_extra "P"); (focus (rfl)); (k_extra "P"); (focus (rfl)); (k_extra "P"); (focus (rfl)); (k_extra "P"); (focus (decide)); (k_extra "P"); (focus (exact fun _ _ => rfl)); (k_extra "P"); (focus (exact fun _ _ => rfl)))
    | ((with_reducible refine' SL.cons ?_ ?_); (k_extra "P"); (focus (k_extra "S")); (k_extra "P"); (focus (k_extra "L")))
    | with_reducible exact SL.nil
  k_with "T" => first
    | ((with_reducible refine' Ts.cmp ?_ ?_ ?_); (k_extra "P"); (focus (k_extra "E")); (k_extra "P"); (focus (k_extra "E")); (k_extra "P"); (focus (rfl)))
    | ((with_reducible refine' Ts.boolOp ?_); (k_extra "P"); (focus (k_extra "B")))
    | ((with_reducible refine' Ts.chain ?_ ?_ ?_ ?_); (k_extra "P"); (focus (k_extra "E")); (k_extra "P"); (focus (k_extra "E")); (k_extra "P"); (focus (k_extra "E")); (k_extra "P"); (focus (rfl)))
  k_with "B" => first
    | ((with_reducible refine' Tall.andCons ?_ ?_); (k_extra "P"); (focus (k_extra "T")); (k_extra "P"); (focus (k_extra "B")))
    | ((with_reducible refine' Tall.orCons ?_ ?_); (k_extra "P"); (focus (k_extra "T")); (k_extra "P"); (focus (k_extra "B")))
    | with_reducible exact Tall.andNil
    | with_reducible exact Tall.orNil
  k_with "A" => first
    | ((with_reducible refine' Evs.cons ?_ ?_ ?_); (k_extra "P"); (focus (k_extra "E")); (k_extra "P"); (focus (k_extra "A")); (k_extra "P"); (focus (exact fun _ => rfl)))
    | with_reducible exact Evs.nil
  k_with "F" => first
    | ((with_reducible refine' As.name ?_); (k_extra "P"); (focus (rfl)))
    | ((with_reducible refine' As.tup2 ?_ ?_); (k_extra "P"); (focus (rfl)); (k_extra "P"); (focus (rfl)))
    | ((with_reducible refine' As.tup4 ?_ ?_ ?_ ?_); (k_extra "P"); (focus (rfl)); (k_extra "P"); (focus (rfl)); (k_extra "P"); (focus (rfl)); (k_extra "P"); (focus (rfl)))
  k_with "P" => show (_ : Prop)
  k_with "wh" => (conv => lhs; whnf); first | done | rfl
  k_with "ok" =>
    refine' OK.mk1e ?hns ?hkeep ?ho ?hcd ?e1 ?e2 ?e3 ?hbind ?hloc ?hcell ?hco ?hgen ?hk ?hT ?hS
    case hns => rw [Good.hK (by assumption)]; k_is
    case hkeep => rw [Good.hK (by assumption)]; k_is
    case ho => rw [Good.hK (by assumption)]; k_is
    case hcd => rw [Good.hK (by assumption)]; k_is
    case e1 => k_extra "wh"
    case e2 => k_extra "wh"
    case e3 => k_extra "wh"
    case hbind => first | exact fun s a b c d e f => BindsTo.of_eq rfl | exact fun s a b c d e => BindsTo.of_eq rfl | exact fun s a b c d => BindsTo.of_eq rfl | exact fun s a b c => BindsTo.of_eq rfl | exact fun s a b => BindsTo.of_eq rfl | exact fun s a => BindsTo.of_eq rfl
    case hloc => rfl
    case hcell => decide
    case hco => rfl
    case hgen => rfl
    case hk => rfl
    case hT => k_extra "L"
  k_with "okd" =>
    refine' OK.mk4d ?hns ?hkeep ?ho ?hcd ?e1 ?e2 ?e3 ?hT0 ?hdo ?hbind ?hloc ?hcell ?hco ?hgen ?hk ?hT ?hS
    case hns => rw [Good.hK (by assumption)]; k_is
    case hkeep => rw [Good.hK (by assumption)]; k_is
    case ho => rw [Good.hK (by assumption)]; k_is
    case hcd => rw [Good.hK (by assumption)]; k_is
    case e1 => k_extra "wh"
    case e2 => k_extra "wh"
    case e3 => k_extra "wh"
    case hT0 => rfl
    case hdo => rw [Good.hK (by assumption)]; k_is
    case hbind => intro s a b c d X; exact binds_K X rfl (by rw [Good.hK (by assumption)]; k_is) rfl rfl rfl
    case hloc => rfl
    case hcell => decide
    case hco => rfl
    case hgen => rfl
    case hk => rfl
    case hT => k_extra "L"
  k_with "sim" =>
    try simp only [List.map, bindS]
    simp only [↓loc_upd, ↓reduceIte, ↓aug_eq, ↓gl0, ↓gl1, ↓gl2, ↓gl3, ↓gl4, ↓gl5, ↓gl6, ↓XE.for, ↓XE.forT, ↓itemsP, ↓itemsL, ↓XE.seq, ↓XE.assign, ↓XE.ite, ↓XE.ret, ↓XE.unpack, ↓XE.try, ↓SE.bin, ↓SE.neg, ↓SE.not, ↓SE.ite, ↓SE.cmp, ↓SE.tuple, ↓SE.list, ↓SE.sub, ↓SE.attr, ↓SE.prim, ↓SE.call, ↓SE.rstrip, ↓SE.take, ↓SE.dict, ↓TE.or, ↓TE.and, ↓TE.cmp, ↓TE.chain, ↓LE.cons, ↓negP, ↓truthP, ↓inP, ↓subP, ↓attrP, ↓allD, ↓allB, ↓takeP, ↓absP, ↓maxP, ↓minP, ↓divmodP, ↓lenP, ↓strP, ↓intP, ↓rangeP, ↓ordP, ↓limP, ↓unP, ↓bindT, ↓isNone, ↓exists_eq_left', ↓bAddI, ↓bAddS, ↓bSubI, ↓bSubB, ↓bMulI, ↓bMulS, ↓bDivI, ↓bModI, ↓bPowI, ↓bShlI, ↓cEqI, ↓cEqS, ↓cEqB, ↓cEqL, ↓cNeI, ↓cNeS, ↓cNeL, ↓cLtI, ↓cLtS, ↓cLeI, ↓cGtI, ↓cGeI, ↓cIsN, ↓cInT, ↓fitSp_q, ↓addSp_q, ↓subSp_q, ↓mulSp_q, ↓cutSp_q, ↓divSp_q, ↓invSp_q, ↓ordSp_q, ↓relSp_q, ↓powSp_q, ↓ibSp_q, ↓colSp_q, ↓tbSp_q, ↓rnegSp_q, ↓cdSp_q, ↓szSp_q, ↓rdSp_q, ↓rrSp_q, ↓riSp_q, ↓tiSp_q, ↓doSp_q, ↓raSp_q, ↓pkSp_q, ↓frSp_q, ↓ctSp_q, ↓lfSp_q, ↓whSp_q, ↓reSp_q, ↓loSp_q, ↓lcSp_q, ↓rouSp_q, ↓lrSp_q, ↓ordSp_qs, upd, ofString_inj, reduceCtorEq, Option.some.injEq, String.reduceEq, decide_eq_true_eq, decide_eq_false_iff_not, Bool.not_eq_true', Bool.not_eq_false', Bool.not_true, Bool.not_false, decide_true, decide_false, true_implies, false_implies, and_true, true_and, List.length, eq_self, Bool.true_eq_false, Bool.false_eq_true, not_true_eq_false, not_false_eq_true, implies_true, forall_const, imp_self, and_self, or_false, false_or, or_true, true_or, and_false, false_and, List.getElem?_cons_zero, List.getElem?_cons_succ, Int.toNat_zero, Int.toNat_one]
  k_with "simL" =>
    try simp only [List.map, bindS]
    simp only [↓loc_upd, ↓reduceIte, ↓aug_eq, ↓gl0, ↓gl1, ↓gl2, ↓gl3, ↓gl4, ↓gl5, ↓gl6, ↓XE.for, ↓XE.forT, ↓itemsP, ↓itemsL, ↓XE.seq, ↓XE.assign, ↓XE.ite, ↓XE.ret, ↓XE.unpack, ↓XE.try, ↓SE.bin, ↓SE.neg, ↓SE.not, ↓SE.ite, ↓SE.cmp, ↓SE.tuple, ↓SE.list, ↓SE.sub, ↓SE.attr, ↓SE.prim, ↓SE.call, ↓SE.rstrip, ↓SE.take, ↓SE.dict, ↓TE.or, ↓TE.and, ↓TE.cmp, ↓TE.chain, ↓LE.cons, ↓negP, ↓truthP, ↓inP, ↓subP, ↓attrP, ↓allD, ↓allB, ↓takeP, ↓absP, ↓maxP, ↓minP, ↓divmodP, ↓lenP, ↓strP, ↓intP, ↓rangeP, ↓ordP, ↓limP, ↓unP, ↓bindT, ↓isNone, ↓exists_eq_left', ↓bAddI, ↓bAddS, ↓bSubI, ↓bSubB, ↓bMulI, ↓bMulS, ↓bDivI, ↓bModI, ↓bPowI, ↓bShlI, ↓cEqI, ↓cEqS, ↓cEqB, ↓cEqL, ↓cNeI, ↓cNeS, ↓cNeL, ↓cLtI, ↓cLtS, ↓cLeI, ↓cGtI, ↓cGeI, ↓cIsN, ↓cInT, ↓fitSp_q, ↓addSp_q, ↓subSp_q, ↓mulSp_q, ↓cutSp_q, ↓divSp_q, ↓invSp_q, ↓ordSp_q, ↓relSp_q, ↓powSp_q, ↓ibSp_q, ↓colSp_q, ↓tbSp_q, ↓rnegSp_q, ↓cdSp_q, ↓szSp_q, ↓rdSp_q, ↓rrSp_q, ↓riSp_q, ↓tiSp_q, ↓doSp_q, ↓raSp_q, ↓pkSp_q, ↓frSp_q, ↓ctSp_q, ↓lfSp_q, ↓whSp_q, ↓reSp_q, ↓loSp_q, ↓lcSp_q, ↓rouSp_q, ↓lrSp_q, ↓ordSp_qs, upd, ofString_inj, reduceCtorEq, Option.some.injEq, String.reduceEq, decide_eq_true_eq, decide_eq_false_iff_not, Bool.not_eq_true', Bool.not_eq_false', Bool.not_true, Bool.not_false, decide_true, decide_false, true_implies, false_implies, and_true, true_and, List.length, eq_self, Bool.true_eq_false, Bool.false_eq_true, not_true_eq_false, not_false_eq_true, implies_true, forall_const, imp_self, and_self, or_false, false_or, or_true, true_or, and_false, false_and, List.getElem?_cons_zero, List.getElem?_cons_succ, Int.toNat_zero, Int.toNat_one, Int.reduceEq, Int.reduceLT, Int.reduceLE, Int.reduceNeg, Int.reduceToNat, Int.reduceAdd, Int.reduceSub, Int.reduceMul, Nat.reduceAdd, Nat.reduceLT, Nat.reduceLeDiff, Nat.reduceEqDiff, ne_eq]
  k_with "simV" =>
    simp only [↓loc_var v1, ↓loc_var v2, ↓loc_var v3, ↓loc_var v4, ↓loc_var v5, ↓loc_var v6, ↓loc_upd, ↓reduceIte, ↓aug_eq, ↓gl0, ↓gl1, ↓gl2, ↓gl3, ↓gl4, ↓gl5, ↓gl6, ↓XE.for, ↓XE.forT, ↓itemsP, ↓itemsL, ↓XE.seq, ↓XE.assign, ↓XE.ite, ↓XE.ret, ↓XE.unpack, ↓XE.try, ↓SE.bin, ↓SE.neg, ↓SE.not, ↓SE.ite, ↓SE.cmp, ↓SE.tuple, ↓SE.list, ↓SE.sub, ↓SE.attr, ↓SE.prim, ↓SE.call, ↓SE.rstrip, ↓SE.take, ↓SE.dict, ↓TE.or, ↓TE.and, ↓TE.cmp, ↓TE.chain, ↓LE.cons, ↓negP, ↓truthP, ↓inP, ↓subP, ↓attrP, ↓allD, ↓allB, ↓takeP, ↓absP, ↓maxP, ↓minP, ↓divmodP, ↓lenP, ↓strP, ↓intP, ↓rangeP, ↓ordP, ↓limP, ↓unP, ↓bindT, ↓isNone, ↓exists_eq_left', ↓bAddI, ↓bAddS, ↓bSubI, ↓bSubB, ↓bMulI, ↓bMulS, ↓bDivI, ↓bModI, ↓bPowI, ↓bShlI, ↓cEqI, ↓cEqS, ↓cEqB, ↓cEqL, ↓cNeI, ↓cNeS, ↓cNeL, ↓cLtI, ↓cLtS, ↓cLeI, ↓cGtI, ↓cGeI, ↓cIsN, ↓cInT, ↓fitSp_q, ↓addSp_q, ↓subSp_q, ↓mulSp_q, ↓cutSp_q, ↓divSp_q, ↓invSp_q, ↓ordSp_q, ↓relSp_q, ↓powSp_q, ↓ibSp_q, ↓colSp_q, ↓tbSp_q, ↓rnegSp_q, ↓cdSp_q, ↓szSp_q, ↓rdSp_q, ↓rrSp_q, ↓riSp_q, ↓tiSp_q, ↓doSp_q, ↓raSp_q, ↓pkSp_q, ↓frSp_q, ↓ctSp_q, ↓lfSp_q, ↓whSp_q, ↓reSp_q, ↓loSp_q, ↓lcSp_q, ↓rouSp_q, ↓lrSp_q, ↓ordSp_qs, upd, ofString_inj, reduceCtorEq, Option.some.injEq, String.reduceEq, decide_eq_true_eq, decide_eq_false_iff_not, Bool.not_eq_true', Bool.not_eq_false', Bool.not_true, Bool.not_false, decide_true, decide_false, true_implies, false_implies, and_true, true_and, List.length, eq_self, Bool.true_eq_false, Bool.false_eq_true, not_true_eq_false, not_false_eq_true, implies_true, forall_const, imp_self, and_self, or_false, false_or, or_true, true_or, and_false, false_and, List.getElem?_cons_zero, List.getElem?_cons_succ, Int.toNat_zero, Int.toNat_one]
  k_with "simC" =>
    try simp only [List.map, bindS]
    simp only [↓loc_upd, ↓reduceIte, ↓aug_eq, ↓gl0, ↓gl1, ↓gl2, ↓gl3, ↓gl4, ↓gl5, ↓gl6, ↓XE.for, ↓XE.forT, ↓itemsP, ↓itemsL, ↓XE.seq, ↓XE.assign, ↓XE.ite, ↓XE.ret, ↓XE.unpack, ↓XE.try, ↓SE.bin, ↓SE.neg, ↓SE.not, ↓SE.ite, ↓SE.cmp, ↓SE.tuple, ↓SE.list, ↓SE.sub, ↓SE.attr, ↓SE.prim, ↓SE.call, ↓SE.rstrip, ↓SE.take, ↓SE.dict, ↓TE.or, ↓TE.and, ↓TE.cmp, ↓TE.chain, ↓LE.cons, ↓negP, ↓truthP, ↓inP, ↓subP, ↓attrP, ↓allD, ↓allB, ↓takeP, ↓absP, ↓maxP, ↓minP, ↓divmodP, ↓lenP, ↓strP, ↓intP, ↓rangeP, ↓ordP, ↓limP, ↓unP, ↓bindT, ↓exists_eq_left', ↓bAddI, ↓bAddS, ↓bSubI, ↓bSubB, ↓bMulI, ↓bMulS, ↓bDivI, ↓bModI, ↓bPowI, ↓bShlI, ↓fitSp_q, ↓addSp_q, ↓subSp_q, ↓mulSp_q, ↓cutSp_q, ↓divSp_q, ↓invSp_q, ↓ordSp_q, ↓relSp_q, ↓powSp_q, ↓ibSp_q, ↓colSp_q, ↓tbSp_q, ↓rnegSp_q, ↓cdSp_q, ↓szSp_q, ↓rdSp_q, ↓rrSp_q, ↓riSp_q, ↓tiSp_q, ↓doSp_q, ↓raSp_q, ↓pkSp_q, ↓frSp_q, ↓ctSp_q, ↓lfSp_q, ↓whSp_q, ↓reSp_q, ↓loSp_q, ↓lcSp_q, ↓rouSp_q, ↓lrSp_q, ↓ordSp_qs, upd, ofString_inj, reduceCtorEq, Option.some.injEq, String.reduceEq, decide_eq_true_eq, decide_eq_false_iff_not, Bool.not_eq_true', Bool.not_eq_false', Bool.not_true, Bool.not_false, decide_true, decide_false, true_implies, false_implies, and_true, true_and, List.length, eq_self, Bool.true_eq_false, Bool.false_eq_true, not_true_eq_false, not_false_eq_true, implies_true, forall_const, imp_self, and_self, or_false, false_or, or_true, true_or, and_false, false_and, List.getElem?_cons_zero, List.getElem?_cons_succ, Int.toNat_zero, Int.toNat_one]
  k_with "simR" => simp only [↓bAddI, ↓bAddS, ↓bSubI, ↓bSubB, ↓bMulI, ↓bMulS, ↓bDivI, ↓bModI, ↓bPowI, ↓bShlI, ↓cEqI, ↓cEqS, ↓cEqB, ↓cEqL, ↓cNeI, ↓cNeS, ↓cNeL, ↓cLtI, ↓cLtS, ↓cLeI, ↓cGtI, ↓cGeI, ↓cIsN, ↓cInT, ↓truthP, ↓allD, ↓allB, ↓inP, ↓negP, decide_eq_true_eq, decide_eq_false_iff_not]
  k_with "open" =>
    repeat first
      | (replace h := kHd_inv h; obtain ⟨_, _, rfl, h⟩ := h)
      | (replace h := kNl_inv h; obtain ⟨rfl, h⟩ := h)
      | (replace h := kI_inv h; obtain ⟨_, rfl, h⟩ := h)
      | (replace h := kS_inv h; obtain ⟨_, rfl, h⟩ := h)
      | (replace h := kB_inv h; obtain ⟨_, rfl, h⟩ := h)
      | (replace h := kD_inv h; obtain ⟨_, rfl, h⟩ := h)
      | (replace h := kLst_inv h; obtain ⟨_, rfl, h⟩ := h)
      | (replace h := kTup_inv h; obtain ⟨_, rfl, h⟩ := h)
      | (replace h := pI_inv h; obtain ⟨_, rfl, h⟩ := h)
      | (replace h := kLim_inv h; obtain ⟨_, _, _, _, rfl, h⟩ := h)
  trivial
section
variable {cx : Cx} (g : Good cx)
include g
theorem ok_fit : OK cx 1 "fit_int" fitSp := by
  k_extra "ok"
  case hS =>
    intro ds Q X h
    unfold fitSp at h
    k_extra "open"
    · rename_i n w
      obtain ⟨⟨h1, h2⟩, h⟩ := h
      refine ⟨rfl, ?_⟩
      k_extra "sim"
      refine ⟨by omega, ?_⟩
      unfold fitO at h
      have e : (2 : Int) ^ (w - 1).toNat = 1 * 2 ^ (w - 1).toNat := by rw [Int.one_mul]
      rw [e] at h
      refine ⟨fun q => ?_, fun q => ⟨fun q' => ?_, fun q' => ?_⟩⟩
      · rw [if_neg (by omega)] at h; exact h
      · rw [if_neg (by omega)] at h; exact h
      · rw [if_pos (by omega)] at h; exact h
theorem ok_add : OK cx 2 "int_add" addSp := by
  have h1 := ok_fit g
  k_extra "ok"
  case hS =>
    intro ds Q X h
    unfold addSp at h
    k_extra "open"
    · exact ⟨rfl, by k_extra "sim"; exact h⟩
theorem ok_sub : OK cx 2 "int_sub" subSp := by
  have h1 := ok_fit g
  k_extra "ok"
  case hS =>
    intro ds Q X h
    unfold subSp at h
    k_extra "open"
    · exact ⟨rfl, by k_extra "sim"; exact h⟩
theorem ok_mul : OK cx 2 "int_mul" mulSp := by
  have h1 := ok_fit g
  k_extra "ok"
  case hS =>
    intro ds Q X h
    unfold mulSp at h
    k_extra "open"
    · exact ⟨rfl, by k_extra "sim"; exact ⟨.inl h.1.2.2, ⟨h.1.1, h.1.2.1⟩, h.2⟩⟩
theorem ok_cut : OK cx 1 "cut_quotient" cutSp := by
  k_extra "ok"
  case hS =>
    intro ds Q X h
    unfold cutSp at h
    k_extra "open"
    · rename_i x y
      obtain ⟨h1, h⟩ := h
      refine ⟨rfl, ?_⟩
      k_extra "sim"
      rw [tdiv_of x y h1] at h
      refine ⟨by split <;> omega, fun q => ?_, fun q => ?_⟩
      · rw [if_pos (by simpa using q)] at h; exact h
      · rw [if_neg (by simpa using q)] at h; exact h
theorem ok_div : OK cx 2 "int_div" divSp := by
  have h1 := ok_fit g
  have h2 := ok_cut g
  k_extra "ok"
  case hS =>
    intro ds Q X h
    unfold divSp at h
    k_extra "open"
    · obtain ⟨h1, h⟩ := h
      refine ⟨rfl, ?_⟩
      k_extra "sim"
      refine ⟨fun q => ?_, fun q => ?_⟩
      · rw [if_pos q] at h; exact h
      · rw [if_neg q] at h; exact ⟨q, h1, h⟩
theorem ok_inv : OK cx 1 "inverse_power" invSp := by
  k_extra "ok"
  case hS =>
    intro ds Q X h
    unfold invSp invO at h
    k_extra "open"
    · rename_i x n
      refine ⟨rfl, ?_⟩
      k_extra "sim"
      refine ⟨fun q => ?_, fun q => ?_⟩
      · rw [if_pos q] at h; exact h
      · rw [if_neg q] at h
        simp only [optP] at h
        by_cases a : x = 1 <;> by_cases b : x = -1 <;> by_cases c : n.fmod 2 = 0 <;> simp_all
theorem ok_ord : OK cx 1 "order_of" ordSp := by
  k_extra "ok"
  case hS =>
    intro ds Q X h
    unfold ordSp ordI ordT at h
    k_extra "open"
    replace h := kIS_inv h; rcases h with ⟨_, rfl, h⟩ | ⟨_, rfl, h⟩ <;> k_extra "open"
    · rename_i x n
      refine ⟨rfl, ?_⟩
      k_extra "sim"
      refine ⟨fun q => ?_, fun q1 => ⟨fun q => ?_, fun q2 => ?_⟩⟩
      · rw [if_pos q] at h; exact h
      · rw [if_neg q1, if_pos q] at h; exact h
      · rw [if_neg q1, if_neg q2] at h; exact h
    · rename_i x n
      refine ⟨rfl, ?_⟩
      k_extra "sim"
      refine ⟨fun q => ?_, fun q1 => ⟨fun q => ?_, fun q2 => ?_⟩⟩
      · rw [if_pos q] at h; exact h
      · rw [if_neg q1, if_pos q] at h; exact h
      · rw [if_neg q1, if_neg q2] at h; exact h
theorem ok_rel : OK cx 1 "holds" relSp := by
  k_extra "ok"
  case hS =>
    intro ds Q X h
    unfold relSp relB at h
    k_extra "open"
    · rename_i op o
      refine ⟨rfl, ?_⟩
      k_extra "sim"
      refine ⟨fun q => ?_, fun q1 => ⟨fun q => ?_, fun q2 => ⟨fun q => ?_, fun q3 => ⟨fun q => ?_, fun q4 => ⟨fun q => ?_, fun q5 => ⟨fun q => ?_, fun q6 => ?_⟩⟩⟩⟩⟩⟩
      · rw [if_pos q] at h; exact h
      · rw [if_neg q1, if_pos q] at h; exact h
      · rw [if_neg q1, if_neg q2, if_pos q] at h; exact h
      · rw [if_neg q1, if_neg q2, if_neg q3, if_pos q] at h; exact h
      · rw [if_neg q1, if_neg q2, if_neg q3, if_neg q4, if_pos q] at h; exact h
      · rw [if_neg q1, if_neg q2, if_neg q3, if_neg q4, if_neg q5, if_pos q] at h; exact h
      · rw [if_neg q1, if_neg q2, if_neg q3, if_neg q4, if_neg q5, if_neg q6] at h; exact h
end

-- the part N4
section
variable {cx : Cx} (g : Good cx)
include g
theorem ok_pow : OK cx 2 "int_power" powSp := by
  have h1 := ok_fit g
  have h2 := ok_inv g
  k_extra "ok"
  case hS =>
    intro ds Q X h
    unfold powSp powO at h
    k_extra "open"
    · rename_i x n w
      obtain ⟨⟨h1, h2, h3⟩, h⟩ := h
      refine ⟨rfl, ?_⟩
      k_extra "sim"
      refine ⟨fun q => ?_, fun q => ?_⟩
      · rw [if_pos q] at h
        show optP (invO x n) I (fun x => fitSp [x, V.d (PyData.int w)] Q X) X
        cases e : invO x n with
        | none => rw [e] at h; exact h
        | some v => rw [e] at h; exact (⟨⟨by omega, by omega⟩, h⟩ : fitSp [I v, V.d (PyData.int w)] Q X)
      rw [if_neg q] at h
      have hx : ∀ {x : Int}, (x = 0 ∨ x = 1 ∨ x = -1) → x.natAbs < 2 ^ 64 := fun {x} h => by rcases h with rfl | rfl | rfl <;> decide
      have small : (x = 0 ∨ x = 1 ∨ x = -1) → ((n < 2 → (0 ≤ n ∧ n ≤ 1000000 ∧ x.natAbs < 2 ^ 64) ∧ fitSp [I (x ^ n.toNat), V.d (PyData.int w)] Q X) ∧
            (¬n < 2 → (2 : Int) ≠ 0 ∧ (0 ≤ 2 - n.fmod 2 ∧ 2 - n.fmod 2 ≤ 1000000 ∧ x.natAbs < 2 ^ 64) ∧ fitSp [I (x ^ (2 - n.fmod 2).toNat), V.d (PyData.int w)] Q X)) := fun hs =>
        ⟨fun q1 => ⟨⟨by omega, by omega, hx hs⟩, ⟨by omega, by omega⟩, h⟩, fun q1 => ⟨by decide, ⟨by rw [fmod_pos (by omega)]; omega, by rw [fmod_pos (by omega)]; omega, hx hs⟩, ⟨by omega, by omega⟩, by rw [small_pow hs q1]; exact h⟩⟩
      refine ⟨fun q1 => small (.inl q1), fun q1 => ⟨fun q2 => small (.inr (.inl q2)), fun q2 => ⟨fun q3 => small (.inr (.inr q3)), fun q3 => ⟨⟨by omega, by omega⟩, ?_⟩⟩⟩⟩
      have hx2 : 2 ≤ x.natAbs := by omega
      obtain ⟨hQ, hX⟩ := fitP_get h
      have hlen : (upto (min n (w + 1)).toNat).length = (min n (w + 1)).toNat := by unfold upto; rw [List.length_map, List.length_range]
      refine forP_inv (fun i τ => τ "found" = some (I (x ^ i)) ∧ τ "x" = some (I x) ∧ τ "width" = some (I w) ∧ (i = 0 ∨ inR (x ^ i) w)) _ 0 _ ?_ (fun j d τ hj ⟨i1, i2, i3, i4⟩ N hN => ?_) (fun τ ⟨i1, i2, i3, i4⟩ => ?_)
      · k_extra "sim"
        rw [Int.pow_zero]
      · k_extra "sim"
        simp only [loc_var i1, loc_var i2, loc_var i3]
        refine ⟨?_, ⟨by omega, by omega⟩, ?_⟩
        · rcases i4 with i4 | i4
          · rw [i4, Int.pow_zero]; exact .inl (by decide)
          · refine .inl (Nat.lt_of_le_of_lt (inR_abs i4) (Nat.pow_lt_pow_right (by decide) (by omega)))
        · have e : x ^ (0 + j) * x = x ^ (0 + j + 1) := (Int.pow_succ _ _).symm
          rw [e]
          have hjn : 0 + j + 1 ≤ n.toNat := by
            have := (List.getElem?_eq_some_iff.mp hj).1
            rw [hlen] at this
            omega
          refine fitP_cases (fun c => hN _ ?_) fun c => hX fun c' => c (pow_in hx2 c' hjn)
          k_extra "sim"
          exact ⟨i2, i3, c⟩
      · rw [hlen, Nat.zero_add] at i1 i4
        show SE.loc _ τ Q X
        rw [loc_var i1]
        rcases Int.le_total n (w + 1) with c | c
        · rw [Int.min_eq_left c]
          rw [Int.min_eq_left c] at i4
          refine hQ ?_
          rcases i4 with i4 | i4
          · rw [i4, Int.pow_zero]
            refine inR_of_lt ?_
            have : 2 ^ 1 ≤ 2 ^ (w - 1).toNat := Nat.pow_le_pow_right (by decide) (by omega)
            have e : (1 : Int).natAbs = 1 := rfl
            omega
          · exact i4
        · rw [Int.min_eq_right c] at i4
          exfalso
          rcases i4 with i4 | i4
          · omega
          · have := pow_big hx2 i4 (by omega)
            omega
end

-- the part N5
section
variable {cx : Cx} (g : Good cx)
include g
theorem ok_ib : OK cx 3 "int_binary" ibSp := by
  have h1 := (ok_add g)
  have h2 := (ok_sub g)
  have h3 := (ok_mul g)
  have h4 := (ok_div g)
  have h5 := (ok_pow g)
  have h6 := (ok_rel g).mono (show 1 ≤ 2 by decide)
  have h7 := (ok_ord g).mono (show 1 ≤ 2 by decide)
  have hlim := limIs g
  k_extra "ok"
  case hS =>
    intro ds Q X h
    unfold ibSp at h
    k_extra "open"
    · rename_i op k x y w r d t
      obtain ⟨⟨hl, hx, hy, hp⟩, h⟩ := h
      unfold limOk at hl
      unfold binI at h
      refine ⟨rfl, ?_⟩
      k_extra "sim"
      refine ⟨fun q => ?_, fun q1 => ⟨fun q => ?_, fun q2 => ⟨fun q => ?_, fun q3 => ⟨fun q => ?_, fun q4 => ⟨fun q => ?_, fun q5 => ⟨fun q => ?_, fun q6 => ?_⟩⟩⟩⟩⟩⟩
      · rw [if_pos q, optP_map] at h; exact ⟨⟨by omega, by omega⟩, h⟩
      · rw [if_neg q1, if_pos q, optP_map] at h; exact ⟨⟨by omega, by omega⟩, h⟩
      · rw [if_neg q1, if_neg q2, if_pos q, optP_map] at h; exact ⟨⟨by omega, by omega, by omega⟩, h⟩
      · rw [if_neg q1, if_neg q2, if_neg q3, if_pos q, optP_map] at h; exact ⟨⟨by omega, by omega⟩, h⟩
      · rw [if_neg q1, if_neg q2, if_neg q3, if_neg q4, if_pos (.inl q), optP_map] at h; exact ⟨⟨by omega, by omega, hp (.inl q)⟩, h⟩
      · rw [if_neg q1, if_neg q2, if_neg q3, if_neg q4, if_pos (.inr q), optP_map] at h; exact ⟨⟨by omega, by omega, hp (.inr q)⟩, h⟩
      · rw [if_neg q1, if_neg q2, if_neg q3, if_neg q4, if_neg (by rintro (q | q); exact q5 q; exact q6 q), optP_map] at h; exact h
theorem ok_col : OK cx 2 "collate" colSp := by
  have h7 := (ok_ord g)
  k_extra "ok"
  case hS =>
    intro ds Q X h
    unfold colSp at h
    k_extra "open"
    · rename_i x y
      obtain ⟨⟨hx, hy⟩, h⟩ := h
      unfold colO at h
      refine ⟨rfl, ?_⟩
      k_extra "sim"
      have b1 : (Txt.mul (Str.ofString " ") (max (x.length : Int) y.length - x.length)).length ≤ 100 := blank_len (by omega)
      have b2 : (Txt.mul (Str.ofString " ") (max (x.length : Int) y.length - y.length)).length ≤ 100 := blank_len (by omega)
      have b3 : (Str.ofString " ").length ≤ 1 := by rw [blank]; decide
      exact ⟨by omega, by omega, by omega, ⟨b3, by omega, by omega⟩, by omega, by omega, ⟨b3, by omega, by omega⟩, by omega, h⟩
theorem ok_tb : OK cx 3 "text_binary" tbSp := by
  have h6 := (ok_rel g).mono (show 1 ≤ 2 by decide)
  have h7 := (ok_col g)
  k_extra "ok"
  case hS =>
    intro ds Q X h
    unfold tbSp at h
    k_extra "open"
    · rename_i op k x y w r d t
      obtain ⟨⟨hx, hy⟩, h⟩ := h
      unfold binT at h
      refine ⟨rfl, ?_⟩
      k_extra "sim"
      refine ⟨fun q => ?_, fun q1 => ?_⟩
      · rw [if_pos q] at h; exact ⟨by omega, h⟩
      · rw [if_neg q1, optP_map] at h; exact ⟨⟨hx, hy⟩, h⟩
theorem ok_bin : OK cx 4 "binary" binSp := by
  have h1 := ok_ib g
  have h2 := ok_tb g
  have h3 : OK cx 3 "real_binary" (fun _ _ _ => False) := OK.never (a := 264) (by rw [g.hK]; k_is) (by rw [g.hK]; k_is)
  have h4 : OK cx 3 "complex_binary" (fun _ _ _ => False) := by refine' OK.never ?a ?b; (case a => rw [g.hK]; k_is); (case b => rw [g.hK]; k_is)
  have h5 : OK cx 3 "logic_binary" (fun _ _ _ => False) := by refine' OK.never ?a ?b; (case a => rw [g.hK]; k_is); (case b => rw [g.hK]; k_is)
  k_extra "ok"
  case hS =>
    intro ds Q X h
    unfold binSp at h
    k_extra "open"
    · rename_i a k x y l
      refine ⟨rfl, ?_⟩
      rcases h with ⟨rfl, h⟩ | ⟨rfl, h⟩
      · k_extra "simL"
        exact h
      · k_extra "simL"
        exact h
theorem ok_rneg : OK cx 1 "real_neg" rnegSp := by
  k_extra "ok"
  case hS =>
    intro ds Q X h
    unfold rnegSp at h
    k_extra "open"
    · refine ⟨rfl, ?_⟩
      k_extra "sim"
      simpa using h
theorem ok_una : OK cx 2 "unary" unaSp := by
  have h1 := ok_fit g
  have h2 := ok_rneg g
  have h4 : OK cx 1 "complex_neg" (fun _ _ _ => False) := by refine' OK.never ?a ?b; (case a => rw [g.hK]; k_is); (case b => rw [g.hK]; k_is)
  have hlim := limIs g
  k_extra "ok"
  case hS =>
    intro ds Q X h
    unfold unaSp at h
    k_extra "open"
    · rename_i op k v w r d t
      refine ⟨rfl, ?_⟩
      rcases h with ⟨rfl, rfl, b, rfl, h⟩ | ⟨rfl, rfl, n, rfl, h1, h⟩ | ⟨rfl, rfl, m, e, rfl, h⟩
      · k_extra "sim"
        simpa using h
      · k_extra "sim"
        exact ⟨h1, h⟩
      · k_extra "sim"
        exact ⟨fun q => absurd q (by decide), fun _ => ⟨fun q => absurd q (by decide), fun _ => h⟩⟩
end

-- the part N6
noncomputable def muI (x : Str) (τ : Sg) : Nat := match τ x with | some (.d (.int a)) => a.natAbs | _ => 0
theorem muI_of {x : Str} {τ : Sg} {a : Int} (h : τ x = some (I a)) : muI x τ = a.natAbs := by unfold muI; rw [h]
theorem upd_at {τ : Sg} {x y : String} {v : V} (h : x = y) : upd τ (Str.ofString y) v (Str.ofString x) = some v := by subst h; exact if_pos rfl
theorem upd_off {τ : Sg} {x y : String} {v : V} (h : x ≠ y) : upd τ (Str.ofString y) v (Str.ofString x) = τ (Str.ofString x) := if_neg (by rw [ofString_inj]; exact h)
noncomputable def cdI1 (n : Nat) (τ : Sg) : Prop := ∃ c : Nat, τ "n" = some (I ((n / 10 ^ c : Nat) : Int)) ∧ τ "count" = some (I c) ∧ (c = 0 ∨ 1 ≤ n / 10 ^ c)
noncomputable def cdI2 (n : Nat) (τ : Sg) : Prop := ∃ c : Nat, τ "n" = some (I ((n / 10 ^ c : Nat) : Int)) ∧ τ "count" = some (I c) ∧ (c = 0 ∨ 10 ^ (c - 1) ≤ n)
theorem cast_div (a b : Nat) (h : 0 < b) : ((a : Int)).fdiv ((b : Nat) : Int) = ((a / b : Nat) : Int) := by rw [fdiv_pos (by omega)]; rfl
theorem cast_mod (a b : Nat) (h : 0 < b) : ((a : Int)).fmod ((b : Nat) : Int) = ((a % b : Nat) : Int) := by rw [fmod_pos (by omega)]; rfl
section
variable {cx : Cx} (g : Good cx)
include g
theorem ok_cd : OK cx 1 "count_digits" cdSp := by
  k_extra "ok"
  case hS =>
    intro ds Q X h
    unfold cdSp at h
    k_extra "open"
    · rename_i n
      refine ⟨rfl, ?_⟩
      k_extra "sim"
      have eA : (if n < 0 then -n else n) = ((n.natAbs / 10 ^ 0 : Nat) : Int) := by rw [Nat.pow_zero, Nat.div_one]; split <;> omega
      refine ⟨cdI1 n.natAbs, muI "n", ⟨0, ?_, ?_, .inl rfl⟩, fun τ ⟨c, i1, i2, i3⟩ => ?_⟩
      · rw [← eA, upd_off (by decide), upd_at rfl]
      · rw [upd_at rfl]; rfl
      · simp only [↓XE.while, ↓TE.cmp, ↓loc_var i1]
        k_extra "sim"
        simp only [↓loc_var i1, ↓loc_var i2]
        refine ⟨fun q => ?_, fun q => ?_⟩
        · refine ⟨by decide, ?_⟩
          have e9 : ((n.natAbs / 10 ^ c : Nat) : Int).fdiv 1000000000 = ((n.natAbs / 10 ^ (c + 9) : Nat) : Int) := by
            rw [show (1000000000 : Int) = ((10 ^ 9 : Nat) : Int) from rfl, cast_div _ _ (by decide), Nat.div_div_eq_div_mul, ← Nat.pow_add]
          rw [e9]
          refine ⟨⟨c + 9, ?_, ?_, .inr ?_⟩, ?_⟩
          · rw [upd_off (by decide), upd_at rfl]
          · rw [upd_at rfl]; rfl
          · rw [Nat.pow_add, ← Nat.div_div_eq_div_mul]; omega
          · rw [muI_of i1, muI_of (a := ((n.natAbs / 10 ^ (c + 9) : Nat) : Int)) (by rw [upd_off (by decide), upd_at rfl]), Nat.pow_add, ← Nat.div_div_eq_div_mul]; omega
        · refine ⟨cdI2 n.natAbs, muI "n", ⟨c, i1, i2, i3.imp id fun q => ?_⟩, fun τ ⟨c, i1, i2, i3⟩ => ?_⟩
          · have : 10 ^ c ≤ n.natAbs := by
              have := (Nat.le_div_iff_mul_le (Nat.pow_pos (by decide : 0 < 10) (n := c))).mp q
              omega
            exact Nat.le_trans (Nat.pow_le_pow_right (by decide) (by omega)) this
          simp only [↓loc_var i1, ↓loc_var i2, decide_eq_true_eq, decide_eq_false_iff_not]
          k_extra "simR"
          refine ⟨fun q => ?_, fun q => h _ ⟨?_, fun j hj => ?_⟩⟩
          · refine ⟨by decide, ?_⟩
            have e9 : ((n.natAbs / 10 ^ c : Nat) : Int).fdiv 10 = ((n.natAbs / 10 ^ (c + 1) : Nat) : Int) := by
              rw [show (10 : Int) = ((10 : Nat) : Int) from rfl, cast_div _ _ (by decide), Nat.div_div_eq_div_mul, ← Nat.pow_succ]
            rw [e9]
            refine ⟨⟨c + 1, ?_, ?_, .inr ?_⟩, ?_⟩
            · rw [upd_off (by decide), upd_at rfl]
            · rw [upd_at rfl]; rfl
            · have : 1 ≤ n.natAbs / 10 ^ c := by omega
              have := (Nat.le_div_iff_mul_le (Nat.pow_pos (by decide : 0 < 10) (n := c))).mp this
              rw [Nat.add_sub_cancel]; omega
            · rw [muI_of i1, muI_of (a := ((n.natAbs / 10 ^ (c + 1) : Nat) : Int)) (by rw [upd_off (by decide), upd_at rfl]), Nat.pow_succ, ← Nat.div_div_eq_div_mul]; omega
          · have p : 0 < 10 ^ c := Nat.pow_pos (by decide)
            have e : n.natAbs / 10 ^ c = 0 := by
              clear i1
              generalize n.natAbs / 10 ^ c = y at q ⊢
              omega
            exact (Nat.div_eq_zero_iff.mp e).resolve_left (by omega)
          · rcases i3 with i3 | i3
            · omega
            · rw [hj] at i3; exact i3
noncomputable def szI (m0 e0 : Int) (τ : Sg) : Prop := ∃ (a : Int) (z : Nat), τ "m" = some (I a) ∧ τ "e" = some (I (e0 + z)) ∧ m0 = a * 10 ^ z ∧ a ≠ 0
theorem ok_sz : OK cx 1 "strip_zeros" szSp := by
  k_extra "ok"
  case hS =>
    intro ds Q X h
    unfold szSp at h
    k_extra "open"
    · rename_i m e
      refine ⟨rfl, ?_⟩
      k_extra "sim"
      refine ⟨h.1, fun q => ⟨szI m e, muI "m", ⟨m, 0, ?_, ?_, by simp, q⟩, fun τ ⟨a, z, i1, i2, i3, i4⟩ => ?_⟩⟩
      · rw [upd_off (by decide), upd_at rfl]
      · rw [upd_at rfl]; simp
      k_extra "sim"
      simp only [↓loc_var i1, ↓loc_var i2]
      k_extra "sim"
      have e10 : a.fmod 10 = a % 10 := fmod_pos (by decide)
      have d10 : a.fdiv 10 = a / 10 := fdiv_pos (by decide)
      rw [e10, d10]
      refine ⟨by decide, fun c => ⟨by decide, ⟨a / 10, z + 1, ?_, ?_, ?_, by omega⟩, ?_⟩, fun c => h.2 q a z i3 c⟩
      · rw [upd_off (by decide), upd_at rfl]
      · rw [upd_at rfl, Int.natCast_add, Int.add_assoc]; rfl
      · have : a = a / 10 * 10 := by omega
        rw [i3, Int.pow_succ, Int.mul_comm (10 ^ z) 10, ← Int.mul_assoc, ← this]
      · rw [muI_of i1, muI_of (a := a / 10) (by rw [upd_off (by decide), upd_at rfl])]
        omega
theorem ok_rd : OK cx 2 "round_digits" rdSp := by
  have h1 := ok_cd g
  have h2 := ok_sz g
  k_extra "ok"
  case hS =>
    intro ds Q X h
    unfold rdSp at h
    k_extra "open"
    · rename_i m e dg
      refine ⟨rfl, ?_⟩
      k_extra "sim"
      obtain ⟨⟨d1, d2, d3⟩, h0, h1⟩ := h
      intro N hN
      have eA : (if m < 0 then -m else m) = (m.natAbs : Int) := by split <;> omega
      refine ⟨fun hd => ?_, fun hd => ⟨h0, fun hm s z e1 e2 => ?_⟩⟩
      · obtain ⟨D, hD⟩ : ∃ D : Nat, (N:Int) - dg = D := ⟨(N - dg).toNat, by omega⟩
        have hm : m ≠ 0 := by rintro rfl; have := IsNd.zero hN; omega
        have hlow := hN.lo (by omega)
        have hPA : 10 ^ D ≤ m.natAbs := Nat.le_trans (Nat.pow_le_pow_right (by decide) (by omega)) hlow
        have hP : 0 < 10 ^ D := Nat.pow_pos (by decide)
        have hD18 : N ≤ 18 := hN.le d3
        have eP : (10:Int)^D = ((10^D : Nat) : Int) := by simp
        have key : ∀ (s : Int) (z : Nat), (if 0 < m then (half m.natAbs (10^D) : Int) else -(half m.natAbs (10^D) : Int)) = s * 10^z → s % 10 ≠ 0 → Q (V.d (PyData.tuple [PyData.int s, PyData.int (e + (D:Int) + z)])) := fun s z e1 e2 => by
          have := h1 hm N s z hN (by unfold rto; rw [if_pos hd, hD, Int.toNat_natCast]; exact e1) e2
          unfold rto at this; rw [if_pos hd, hD] at this; exact this
        have hq1 : 1 ≤ m.natAbs / 10 ^ D := (Nat.le_div_iff_mul_le hP).mpr (by omega)
        have leaf : ∀ K : Int, K = (half m.natAbs (10^D) : Int) → (0 < m → (K = 0 → Q (V.d (PyData.tuple [PyData.int 0, PyData.int 0]))) ∧ (K ≠ 0 → ∀ (s : Int) (z : Nat), K = s * 10^z → s % 10 ≠ 0 → Q (V.d (PyData.tuple [PyData.int s, PyData.int (e + (D:Int) + z)])))) ∧
            (¬ 0 < m → (-K = 0 → Q (V.d (PyData.tuple [PyData.int 0, PyData.int 0]))) ∧ (-K ≠ 0 → ∀ (s : Int) (z : Nat), -K = s*10^z → s % 10 ≠ 0 → Q (V.d (PyData.tuple [PyData.int s, PyData.int (e + (D:Int) + z)])))) := fun K hK => by
          have hK1 : 1 ≤ K := by rw [hK]; unfold half; split <;> omega
          refine ⟨fun c => ⟨fun c1 => by omega, fun _ s z e1 e2 => key s z ?_ e2⟩, fun c => ⟨fun c1 => by omega, fun _ s z e1 e2 => key s z ?_ e2⟩⟩
          · rw [if_pos c, ← hK]; exact e1
          · rw [if_neg c, ← hK]; exact e1
        simp only [eA, hD, Int.toNat_natCast, eP, cast_div _ _ hP, cast_mod _ _ hP, fmod_pos (show (0:Int) < 2 by decide)]
        refine ⟨⟨by omega, by omega, by decide⟩, by omega, .inl (by decide), fun c => leaf _ ?_, fun c => ⟨.inl (by decide), fun c1 => ⟨by decide, fun c2 => leaf _ ?_, fun c2 => leaf _ ?_⟩, fun c1 => leaf _ ?_⟩⟩
        all_goals
          unfold half
          generalize m.natAbs / 10 ^ D = q at *
          generalize m.natAbs % 10 ^ D = r at *
          split <;> omega
      · have := h1 hm N s z hN (by unfold rto; rw [if_neg hd]; exact e1) e2
        unfold rto at this; rw [if_neg hd] at this; exact this
theorem ok_rr : OK cx 3 "round_real" rrSp := by
  have h1 := (ok_cd g).mono (show 1 ≤ 2 by decide)
  have h2 := ok_rd g
  k_extra "ok"
  case hS =>
    intro ds Q X h
    unfold rrSp at h
    k_extra "open"
    · rename_i m e dg t
      refine ⟨rfl, ?_⟩
      k_extra "sim"
      obtain ⟨⟨d1, d2, d3, d4⟩, h⟩ := h
      refine ⟨⟨d1, d2, d3⟩, fun c k hk => ?_, fun c N s z e1 e2 e3 k e4 => ⟨fun q => absurd q (by rintro rfl; exact e3 rfl), fun q => ?_⟩⟩
      · rw [IsRnd.eq (.inl ⟨c, rfl⟩)] at h; exact h
      · rw [IsRnd.eq (.inr ⟨c, N, s, z, k, e1, e2, e3, e4, rfl⟩)] at h
        unfold leadO at h
        refine ⟨fun c1 => ?_, fun c1 => ⟨fun c2 => ?_, fun c2 => ?_⟩⟩
        · rw [if_pos c1] at h; exact h
        · rw [if_neg c1, if_pos c2] at h; exact h
        · rw [if_neg c1, if_neg c2] at h; exact h
end

-- the part N7
theorem okv_cases {k : Int} {v : PyData} (h : okv k v) : (∃ n, v = .int n ∧ k = 0 ∧ numOk n 0) ∨ (∃ m e, v = .tuple [.int m, .int e] ∧ (k = 1 ∨ k = 2) ∧ numOk m e) ∨
    (∃ m e y, v = .tuple [.tuple [.int m, .int e], y] ∧ k = 3 ∧ numOk m e) ∨ k = 4 ∨ k = 5 := by
  unfold okv at h
  split at h
  · exact .inl ⟨_, rfl, h⟩
  · exact .inr (.inl ⟨_, _, rfl, h⟩)
  · exact .inr (.inr (.inl ⟨_, _, _, rfl, h⟩))
  · exact .inr (.inr (.inr (.inl h)))
  · exact .inr (.inr (.inr (.inr h)))
  · exact h.elim
section
variable {cx : Cx} (g : Good cx)
include g
theorem ok_ri : OK cx 4 "real_of_int" riSp := by
  have h1 := (ok_rr g)
  k_extra "ok"
  case hS =>
    intro ds Q X h
    unfold riSp at h
    k_extra "open"
    · refine ⟨rfl, ?_⟩
      k_extra "sim"
      exact h
theorem ok_ti : OK cx 1 "real_to_int" tiSp := by
  k_extra "ok"
  case hS =>
    intro ds Q X h
    unfold tiSp at h
    k_extra "open"
    · rename_i m e
      refine ⟨rfl, ?_⟩
      k_extra "sim"
      obtain ⟨⟨n1, n2, n3⟩, h⟩ := h
      unfold cutI at h
      have p : (0 : Int) < 10 ^ (-e).toNat := Int.pow_pos (by decide)
      refine ⟨fun c => ⟨⟨c, by omega, by decide⟩, .inl (Nat.lt_trans n1 (by decide)), ?_⟩, fun c => ⟨⟨by omega, by omega, by decide⟩, Int.ne_of_gt p, fun q => ?_, fun q => ?_⟩⟩
      · rw [show (-e).toNat = 0 by omega, Int.pow_zero, Int.tdiv_one] at h; exact h
      · rw [show e.toNat = 0 by omega, Int.pow_zero, Int.mul_one, tdiv_of _ _ (Int.ne_of_gt p)] at h
        rw [if_pos (by simp only [show ¬ m < 0 by omega, show ¬ (10 : Int) ^ (-e).toNat < 0 by omega]), if_neg (show ¬ (10 : Int) ^ (-e).toNat < 0 by omega)] at h
        exact h
      · rw [show e.toNat = 0 by omega, Int.pow_zero, Int.mul_one, tdiv_of _ _ (Int.ne_of_gt p)] at h
        rcases Int.lt_or_eq_of_le (show m ≤ 0 by omega) with c1 | c1
        · rw [if_neg (by simp only [c1, show ¬ (10 : Int) ^ (-e).toNat < 0 by omega]; exact fun z => z ▸ trivial), if_neg (show ¬ (10 : Int) ^ (-e).toNat < 0 by omega)] at h
          exact h
        · subst c1
          rw [if_pos (by simp only [show ¬ (0 : Int) < 0 by omega, show ¬ (10 : Int) ^ (-e).toNat < 0 by omega])] at h
          simpa using h
theorem ok_do : OK cx 1 "digits_of" doSp := by
  have hlim := limIs g
  k_extra "ok"
  case hS =>
    intro ds Q X h
    unfold doSp at h
    k_extra "open"
    · rename_i k w r d t
      refine ⟨rfl, ?_⟩
      k_extra "sim"
      refine ⟨fun c => ?_, fun c => ?_⟩
      · rw [if_pos c] at h; exact h
      · rw [if_neg c] at h; exact h
theorem ok_ra : OK cx 5 "real_as" raSp := by
  have h1 := (ok_ri g)
  have h2 := (ok_rr g).mono (show 3 ≤ 4 by decide)
  have h3 := (ok_do g).mono (show 1 ≤ 4 by decide)
  have hlim := limIs g
  k_extra "ok"
  case hS =>
    intro ds Q X h
    unfold raSp at h
    k_extra "open"
    · rename_i v k to w r d t
      refine ⟨rfl, ?_⟩
      obtain ⟨⟨hl, hk, n4, n5⟩, h⟩ := h
      unfold limOk at hl
      have hd : 1 ≤ (if to = 1 then r else d) ∧ (if to = 1 then r else d) ≤ 30 := by split <;> omega
      rcases okv_cases hk with ⟨n, rfl, rfl, n1, _⟩ | ⟨m, e, rfl, hk, n1, _⟩ | ⟨m, e, y, rfl, rfl, n1, _⟩ | hk | hk
      · k_extra "simL"
        exact ⟨⟨hd.1, hd.2, n1, by omega⟩, h⟩
      · k_extra "simL"
        exact ⟨fun c => by omega, fun _ => ⟨fun c => by omega, fun _ => ⟨⟨hd.1, hd.2, n1, by omega⟩, h⟩⟩⟩
      · k_extra "simL"
        exact ⟨⟨hd.1, hd.2, n1, by omega⟩, h⟩
      · exact absurd hk n4
      · exact absurd hk n5
theorem ok_cv : OK cx 6 "convert" cvSp := by
  have h1 := (ok_ra g)
  have h2 := (ok_fit g).mono (show 1 ≤ 5 by decide)
  have h3 := (ok_ti g).mono (show 1 ≤ 5 by decide)
  have hlim := limIs g
  k_extra "ok"
  case hS =>
    intro ds Q X h
    unfold cvSp at h
    k_extra "open"
    · rename_i v k to w r d t
      refine ⟨rfl, ?_⟩
      k_extra "sim"
      obtain ⟨⟨hl, hk, ht1, ht2⟩, h⟩ := h
      unfold convO at h
      refine ⟨fun c => ?_, fun c0 => ⟨fun c => ?_, fun c1 => ⟨fun c => ?_, fun c2 => ⟨fun c => ?_, fun c3 => ⟨fun c => ?_, fun c4 => ⟨fun c => ⟨⟨hl, hk, c1, c2⟩, ?_⟩, fun c5 => ⟨fun c => ⟨⟨hl, hk, c1, c2⟩, ?_⟩, fun c6 => ⟨fun c => ⟨⟨hl, hk, c1, c2⟩, ?_⟩, fun c7 => ⟨fun c => ?_, fun c => ?_⟩⟩⟩⟩⟩⟩⟩⟩⟩
      · rw [if_pos c] at h; exact h
      · rw [if_neg c0, if_pos (.inl c)] at h; exact h
      · rw [if_neg c0, if_pos (.inr (.inl c))] at h; exact h
      · rw [if_neg c0, if_pos (.inr (.inr (.inl c)))] at h; exact h
      · rw [if_neg c0, if_pos (.inr (.inr (.inr c)))] at h; exact h
      · rw [if_neg c0, if_neg (by omega), if_pos c, optP_map] at h; exact h
      · rw [if_neg c0, if_neg (by omega), if_neg c5, if_pos (.inl c), optP_map] at h; exact h
      · rw [if_neg c0, if_neg (by omega), if_neg c5, if_pos (.inr c), optP_map] at h; exact h
      all_goals
        rw [if_neg c0, if_neg (by omega), if_neg c5, if_neg (by omega), optP_map] at h
        unfold limOk at hl
        rcases okv_cases hk with ⟨n, rfl, rfl, n1, _⟩ | ⟨m, e, rfl, hk, n1⟩ | ⟨m, e, y, rfl, rfl, n1⟩ | hk | hk
      · omega
      · omega
      · k_extra "simL"
        exact ⟨n1, ⟨by omega, by omega⟩, h⟩
      · exact absurd hk c1
      · exact absurd hk c2
      · omega
      · exact ⟨n1, ⟨by omega, by omega⟩, h⟩
      · omega
      · exact absurd hk c1
      · exact absurd hk c2
end

-- the part N8
theorem cut1 {a b : Int} (hb : b ≠ 0) (h : decide (a < 0) = decide (b < 0)) : a.fdiv b = a.tdiv b := by
  rw [Int.tdiv_eq_fdiv]
  have h' : (a < 0) ↔ (b < 0) := by simpa using h
  have e : (if b ∣ a then 0 else if 0 ≤ a then if 0 ≤ b then 0 else 1 else if 0 ≤ b then b.sign else 1 + b.sign) = 0 := by
    split
    · rfl
    · split
      · rw [if_pos (by omega)]
      · rw [if_neg (by omega), Int.sign_eq_neg_one_of_neg (by omega)]; rfl
  rw [e, Int.add_zero]
theorem cut2 {a b : Int} (h : a.fmod b = 0) : a.fdiv b = a.tdiv b := by
  rw [Int.tdiv_eq_fdiv, if_pos (Int.dvd_of_fmod_eq_zero h), Int.add_zero]
theorem cut3 {a b : Int} (hb : b ≠ 0) (h : ¬ decide (a < 0) = decide (b < 0)) (h2 : ¬ a.fmod b = 0) : a.fdiv b + 1 = a.tdiv b := by
  have h' : ¬ ((a < 0) ↔ (b < 0)) := by simpa using h
  rw [Int.tdiv_eq_fdiv, if_neg (fun q => h2 (Int.dvd_iff_fmod_eq_zero.mp q))]
  have e : (if 0 ≤ a then if 0 ≤ b then (0 : Int) else 1 else if 0 ≤ b then b.sign else 1 + b.sign) = 1 := by
    split
    · rw [if_neg (by omega)]
    · rw [if_pos (by omega), Int.sign_eq_one_of_pos (by omega)]
  rw [e]
section
variable {cx : Cx} (g : Good cx)
include g
theorem ok_pk : OK cx 1 "_law_pick" pkSp := by
  k_extra "ok"
  case hS =>
    intro ds Q X h
    unfold pkSp at h
    k_extra "open"
    · rename_i xs i m
      refine ⟨rfl, ?_⟩
      k_extra "sim"
      obtain ⟨⟨⟨⟨ns, rfl⟩, hl⟩, i1, i2, m1⟩, h⟩ := h
      refine ⟨by omega, fun c => ⟨⟨i1, i2⟩, ?_⟩, fun c => h 0 (by omega) m1⟩
      have hi : i.toNat < ns.length := by rw [List.length_map] at c; omega
      refine ⟨.int ns[i.toNat], by rw [List.getElem?_map, List.getElem?_eq_getElem hi]; rfl, by omega, ?_⟩
      rw [fmod_pos m1]
      exact h _ (Int.emod_nonneg _ (by omega)) (Int.emod_lt_of_pos _ m1)
theorem ok_fr : OK cx 1 "_law_fraction" frSp := by
  k_extra "ok"
  case hS =>
    intro ds Q X h
    unfold frSp at h
    k_extra "open"
    · rename_i m e
      refine ⟨rfl, ?_⟩
      k_extra "sim"
      obtain ⟨⟨n1, n2, n3⟩, h⟩ := h
      rw [show (max 0 e).toNat = e.toNat by omega, show (max 0 (-e)).toNat = (-e).toNat by omega]
      exact ⟨by decide, by decide, ⟨by omega, by omega, by decide⟩, .inl (Nat.lt_trans n1 (by decide)), by decide, ⟨by omega, by omega, by decide⟩, h⟩
theorem ok_ct : OK cx 1 "_law_cut" ctSp := by
  k_extra "ok"
  case hS =>
    intro ds Q X h
    unfold ctSp at h
    k_extra "open"
    · rename_i a b
      refine ⟨rfl, ?_⟩
      k_extra "sim"
      obtain ⟨hb, h⟩ := h
      refine ⟨fun c => ⟨hb, ?_⟩, fun c => ⟨hb, fun c1 => ⟨hb, ?_⟩, fun c1 => ⟨hb, ?_⟩⟩⟩
      · rw [cut1 hb c]; exact h
      · rw [cut2 c1]; exact h
      · rw [cut3 hb c c1]; exact h
theorem ok_lf : OK cx 1 "_law_fit" lfSp := by
  k_extra "ok"
  case hS =>
    intro ds Q X h
    unfold lfSp at h
    k_extra "open"
    · rename_i n w
      refine ⟨rfl, ?_⟩
      k_extra "sim"
      obtain ⟨⟨w1, w2⟩, h⟩ := h
      unfold fitO at h
      refine ⟨⟨by omega, by omega, by decide⟩, fun c => ⟨⟨by omega, by omega, by decide⟩, fun c1 => ?_, fun c1 => ?_⟩, fun c => ?_⟩
      · rw [if_pos ⟨c, c1⟩] at h; exact h
      · rw [if_neg (fun q => c1 q.2)] at h; exact h
      · rw [if_neg (fun q => c q.1)] at h; exact h
theorem ok_wh : OK cx 2 "_law_whole" whSp := by
  have h1 := ok_ct g
  have h2 := ok_lf g
  k_extra "ok"
  case hS =>
    intro ds Q X h
    unfold whSp at h
    k_extra "open"
    · rename_i op x y w
      refine ⟨rfl, ?_⟩
      k_extra "sim"
      obtain ⟨⟨hw, hx, hy, ho⟩, h⟩ := h
      have hx' : x.natAbs < 2 ^ 64 := Nat.lt_trans hx (by decide)
      unfold wholeO at h
      refine ⟨fun c => ⟨hw, ?_⟩, fun c1 => ⟨fun c => ⟨hw, ?_⟩, fun c2 => ⟨fun c => ⟨.inl hx', hw, ?_⟩, fun c3 => ⟨fun c => ⟨fun d => ?_, fun d => ⟨d, hw, ?_⟩⟩, fun c4 => ?_⟩⟩⟩⟩
      · rw [if_pos c] at h; exact h
      · rw [if_neg c1, if_pos c] at h; exact h
      · rw [if_neg c1, if_neg c2, if_pos c] at h; exact h
      · rw [if_neg c1, if_neg c2, if_neg c3, if_pos c, if_pos d] at h; exact h
      · rw [if_neg c1, if_neg c2, if_neg c3, if_pos c, if_neg d] at h; exact h
      · have hy := hy ((((ho.resolve_left c1).resolve_left c2).resolve_left c3).resolve_left c4)
        rw [if_neg c1, if_neg c2, if_neg c3, if_neg c4] at h
        refine ⟨fun c => ⟨⟨c, by omega, hx'⟩, hw, ?_⟩, fun c => ⟨fun d => ?_, fun d => ⟨⟨by omega, by omega, hx'⟩, Int.pow_ne_zero d, hw, ?_⟩⟩⟩
        · rw [if_pos c] at h; exact h
        · rw [if_neg c, if_pos d] at h; exact h
        · rw [if_neg c, if_neg d] at h; exact h
theorem ok_re : OK cx 1 "_law_relations" reSp := by
  k_extra "ok"
  case hS =>
    intro ds Q X h
    unfold reSp at h
    k_extra "open"
    · rename_i o
      refine ⟨rfl, ?_⟩
      k_extra "sim"
      exact h
end

-- the part N9a
noncomputable def loI (x y : Str) (i : Nat) (τ : Sg) : Prop := τ "x" = some (S x) ∧ τ "y" = some (S y) ∧ ∀ j, j < i → ch x j = ch y j
theorem ord_item {x : Str} {j : Nat} (h : j < x.length) : (((Txt.item x (j : Int)).cps.getD 0 0 : Nat) : Int) = (ch x j : Int) := by
  rw [W.item_meets (x := x) (i := (j : Int)) (by omega)]
  unfold ch
  rw [if_pos h, Int.toNat_natCast]
  rfl
section
variable {cx : Cx} (g : Good cx)
include g
theorem ok_lo : OK cx 1 "_law_order" loSp := by
  k_extra "ok"
  case hS =>
    intro ds Q X h
    unfold loSp at h
    k_extra "open"
    · rename_i x y
      refine ⟨rfl, ?_⟩
      k_extra "sim"
      obtain ⟨⟨hx, hy⟩, h⟩ := h
      refine ⟨by omega, by omega, by omega, ?_⟩
      refine forP_inv (loI x y) _ 0 _ ⟨?_, ?_, fun j hj => absurd hj (by omega)⟩ (fun j d τ hj ⟨i1, i2, i3⟩ N hN => ?_) (fun τ ⟨i1, i2, i3⟩ => ?_)
      · rw [upd_off (by decide), upd_off (by decide), upd_at rfl]
      · rw [upd_off (by decide), upd_at rfl]
      · obtain ⟨hjn, rfl⟩ := upto_get hj
        rw [Nat.zero_add] at i3
        have hjW : j < max x.length y.length := by omega
        k_extra "sim"
        simp only [↓loc_var i1, ↓loc_var i2, ↓loc_upd, ↓reduceIte, String.reduceEq, ofString_inj]
        k_extra "sim"
        have nx : ∀ a b : Int, a = b → a = (ch x j : Int) → b = (ch y j : Int) → N (upd (upd (upd τ (Str.ofString "k") (I (j : Int))) (Str.ofString "a") (I a)) (Str.ofString "b") (I b)) := fun a b c h1 h2 => by
          refine hN _ ⟨?_, ?_, fun i hi => ?_⟩
          · rw [upd_off (by decide), upd_off (by decide), upd_off (by decide)]; exact i1
          · rw [upd_off (by decide), upd_off (by decide), upd_off (by decide)]; exact i2
          · rcases Nat.lt_or_eq_of_le (show i ≤ j by omega) with q | q
            · exact i3 i q
            · subst q; omega
        have lf : ∀ a b : Int, a = (ch x j : Int) → b = (ch y j : Int) → (¬ a = b → (a < b → Q (I (-1))) ∧ (¬ a < b → Q (I 1))) := fun a b h1 h2 c => by
          rw [col_ne hjW i3 (by omega)] at h
          refine ⟨fun c1 => ?_, fun c1 => ?_⟩
          · rw [if_pos (by omega)] at h; exact h
          · rw [if_neg (by omega)] at h; exact h
        have ex : ¬ (j : Int) < x.length → (32 : Int) = (ch x j : Int) := fun c => by unfold ch; rw [if_neg (by omega)]; rfl
        have ey : ¬ (j : Int) < y.length → (32 : Int) = (ch y j : Int) := fun c => by unfold ch; rw [if_neg (by omega)]; rfl
        have ox : (j : Int) < x.length → (((Txt.item x (j : Int)).cps.getD 0 0 : Nat) : Int) = (ch x j : Int) := fun c => ord_item (by omega)
        have oy : (j : Int) < y.length → (((Txt.item y (j : Int)).cps.getD 0 0 : Nat) : Int) = (ch y j : Int) := fun c => ord_item (by omega)
        refine ⟨by omega, fun c => ⟨⟨by omega, c, by omega⟩, rfl, by omega, fun c1 => ⟨⟨by omega, c1, by omega⟩, rfl, lf _ _ (ox c) (oy c1), fun c2 => nx _ _ c2 (ox c) (oy c1)⟩, fun c1 => ⟨lf _ _ (ox c) (ey c1), fun c2 => nx _ _ c2 (ox c) (ey c1)⟩⟩,
          fun c => ⟨by omega, fun c1 => ⟨⟨by omega, c1, by omega⟩, rfl, lf _ _ (ex c) (oy c1), fun c2 => nx _ _ c2 (ex c) (oy c1)⟩, fun c1 => nx _ _ rfl (ex c) (ey c1)⟩⟩
      · show Q (I 0)
        rw [upto_len, Nat.zero_add] at i3
        rw [← col_zero (x := x) (y := y) fun j hj => i3 j (by omega)]
        exact h
theorem ok_hd : OK cx 7 "_law_heard" hdSp := by
  have h1 := (ok_bin g).mono (show 4 ≤ 6 by decide)
  have h2 := (ok_cv g)
  have h3 := (ok_una g).mono (show 2 ≤ 6 by decide)
  k_extra "ok"
  case hS =>
    intro ds Q X h
    unfold hdSp at h
    k_extra "open"
    · rename_i way a k x y l
      refine ⟨rfl, ?_⟩
      k_extra "sim"
      rcases h with ⟨rfl, h⟩ | ⟨rfl, h⟩ | ⟨rfl, h⟩
      · exact ⟨fun _ => h, fun c => absurd rfl c⟩
      · exact ⟨fun c => absurd c (by decide), fun _ => ⟨fun _ => h, fun c => absurd rfl c⟩⟩
      · exact ⟨fun c => absurd c (by decide), fun _ => ⟨fun c => absurd c (by decide), fun _ => h⟩⟩
theorem ok_lr : OK cx 2 "_law_real" lrSp := by
  have h1 := ok_pk g
  k_extra "ok"
  case hS =>
    intro ds Q X h
    unfold lrSp at h
    k_extra "open"
    · rename_i xs i dg t
      refine ⟨rfl, ?_⟩
      k_extra "sim"
      obtain ⟨⟨hx, i1, i2, d1, d2, t1, t2⟩, h⟩ := h
      have p10 : ∀ x : Nat, (0 : Int) < 10 ^ x := fun x => Int.pow_pos (by decide)
      refine ⟨by decide, .inl (by decide), ⟨hx, by omega, by omega, by decide⟩, fun v v1 v2 => ⟨.inl (by decide), ⟨hx, by omega, by omega, by omega⟩, fun w w1 w2 => ⟨by decide, ⟨by omega, by omega, by decide⟩, Int.ne_of_gt (p10 _), ?_⟩⟩⟩
      obtain ⟨F, hF, hF1⟩ : ∃ F : Nat, (v.fdiv 2 + 7).fmod (10 ^ dg.toNat) = (F : Int) ∧ F < 10 ^ 16 := by
        rw [fmod_pos (p10 _)]
        have h1 := Int.emod_nonneg (v.fdiv 2 + 7) (Int.ne_of_gt (p10 dg.toNat))
        have h2 := Int.emod_lt_of_pos (v.fdiv 2 + 7) (p10 dg.toNat)
        refine ⟨((v.fdiv 2 + 7) % 10 ^ dg.toNat).toNat, (Int.toNat_of_nonneg h1).symm, ?_⟩
        have h3 : ((10 ^ dg.toNat : Nat) : Int) = 10 ^ dg.toNat := by simp
        have h4 : 10 ^ dg.toNat ≤ 10 ^ 16 := Nat.pow_le_pow_right (by decide) (by omega)
        omega
      rw [hF, fmod_pos (show (0 : Int) < 2 by decide), fmod_pos (show (0 : Int) < 2 by decide), fdiv_pos (show (0 : Int) < 2 by decide), fdiv_pos (show (0 : Int) < 2 by decide)]
      have hlF : (Str.ofString (toString (F : Int))).length ≤ 16 := fig_le (by decide) hF1
      refine ⟨Nat.lt_of_lt_of_le hF1 (Nat.pow_le_pow_right (by decide) (by decide)), _, rfl, by omega, _, rfl, ?_⟩
      rcases Nat.eq_zero_or_pos F with h0 | h0
      · have e : Txt.rstripChars (Str.ofString (toString (F : Int))) (Str.ofString "0") = Str.ofString "" := by rw [h0]; exact strip_zero
        refine ⟨fun _ => h 0 0 ⟨by decide, by decide, by decide⟩, fun c => absurd e c⟩
      · obtain ⟨s, z, hs, hs10⟩ := exists_strip F h0
        have e : Txt.rstripChars (Str.ofString (toString (F : Int))) (Str.ofString "0") = fig s := strip_fig hs hs10
        have hsF : s ≤ F := by rw [hs]; exact Nat.le_mul_of_pos_right s (Nat.pow_pos (by decide))
        have l1 := fig_one s
        have l2 : (fig s).length ≤ 16 := fig_le (by decide) (Nat.lt_of_le_of_lt hsF hF1)
        rw [e]
        have ne : ¬ fig s = Str.ofString "" := fun q => by
          rw [q] at l1
          exact absurd l1 (by decide +kernel)
        have sm : ((1 - 2 * (v % 2)) * (s : Int)).natAbs < 10 ^ 18 := by
          rcases Int.emod_two_eq v with q | q <;> rw [q] <;> omega
        refine ⟨fun c => absurd c ne, fun _ => ⟨by decide, fun c => ⟨by decide, by decide, .inl (by decide), s, fig_reads (by omega), by omega, .inl (by omega), by omega, h _ _ ⟨sm, by omega, by omega⟩⟩, fun c => ⟨by decide, by decide, .inl (by decide), s, fig_reads (by omega), by omega, .inl (by omega), by omega, h _ _ ⟨sm, by omega, by omega⟩⟩⟩⟩
end

-- the part N9r
/-- a def of four arguments and one default, the number 0 -/
theorem OK.mk4d {cx : Cx} {k : Nat} {x : Str} {a : Addr} {oc : Value} {od : Option Addr} {osl : Array (Option Value)} {name qual : Str} {params params' : Arguments} {body body' : List Stmt} {scope scope' : Scope} {dV kV doc pm cdv ct : Value} {an : Option Addr} {T0 : Addr} {c0 : Value} {d0 : Option Addr} {tk : Tok} {n0 : Nat} {sl0 : Array (Option Value)} {T : XE} {Sp : Spec}
    (hns : nsIn cx.K mainGlobals x = some (some (.ref a))) (hkeep : keepIn cx.K (.ref a) = true)
    (ho : cx.K.lookup a = some ⟨oc, od, .func (fnOf name qual params' body' scope' dV kV doc pm an cdv ct), osl⟩) (hcd : codeIn cx.K cdv qual = true)
    (e1 : params' = params) (e2 : body' = body) (e3 : scope' = scope)
    (hT0 : dV = .ref T0) (hdo : cx.K.lookup T0 = some ⟨c0, d0, .seq #[.int 0 tk] n0, sl0⟩)
    (hbind : ∀ (s : Shared) (a b c d : Value), cx.K.In s.heap → BindsTo s (fnOf name qual params body scope dV kV doc pm an cdv ct) ⟨[a, b, c, d], []⟩ ((params.args.map (·.arg)).zip [a, b, c, d, .int 0 tk]))
    (hloc : ((params.args.map (·.arg)).all fun y => decide (scope.names.lookup y = some .local)) = true)
    (hcell : ∀ x ∈ scope.names, x.2 ≠ .cell) (hco : scope.isCoroutine = false) (hgen : scope.isGenerator = false) (hk : scope.kind = .function)
    (hT : SL cx k scope body T) (hS : ∀ ds Q X, Sp ds Q X → ds.length = 4 ∧ T (bindS (params.args.map (·.arg)) (ds ++ [I 0]) fun _ => none) (funPost Q X)) : OK cx (k + 1) x Sp := by
  subst e1 e2 e3
  exact OK.mk (dvs := [.int 0 tk]) (dds := [I 0]) (n := 4) hns hkeep ho hcd (fun s vs X h => by
    match vs, h with
    | [a, b, c, d], _ => exact hbind s a b c d X) (fun hid h => ⟨rep_int 0 tk, trivial⟩) hloc hcell hco hgen hk hT hS
theorem half_le (a b : Nat) : half a b ≤ a + 1 := by
  have := Nat.div_le_self a b
  unfold half; split <;> omega
theorem mulOk_pow {A n x : Nat} (hA : A < 10 ^ n) (hn : n ≤ 300) (hx : x < 300) : mulOk (A : Int) (10 ^ x) := by
  refine .inr (.inr ⟨Nat.lt_of_lt_of_le hA (Nat.pow_le_pow_right (by decide) hn), ?_⟩)
  rw [Int.natAbs_pow]
  exact Nat.pow_lt_pow_right (by decide) hx
theorem rou_leaf {m e dg t ld sg : Int} {s k zz R : Nat} {Q : V → Prop} (hR : R = s * 10 ^ zz) (hs : s % 10 ≠ 0) (hk : IsNd s k) (hbig : k + zz ≤ 400) (h1 : rnd m e dg t = leadO (ld + ((k + zz : Nat) - dg)) t (if 0 < m then (s : Int) else -(s : Int)) (ld + ((k + zz : Nat) - dg) - k + 1))
    (hsg : sg = if 0 < m then 1 else -1) (h0 : 0 ≤ t) (h : Q (rndV m e dg t)) (row : Int) (hrow : row = (R : Int)) :
    row.natAbs < 10 ^ 500 ∧ (Str.ofString (toString row)).length ≤ 1000000 ∧
      (t < ld + (((Str.ofString (toString row)).length : Int) - dg + 0) → Q NN) ∧
      (¬ t < ld + (((Str.ofString (toString row)).length : Int) - dg + 0) →
        (ld + (((Str.ofString (toString row)).length : Int) - dg + 0) < -t → Q (V.d (PyData.tuple [PyData.int 0, PyData.int 0]))) ∧
        (¬ ld + (((Str.ofString (toString row)).length : Int) - dg + 0) < -t →
          ∃ u, S (Str.ofString (toString row)) = S u ∧ u.length ≤ 100000 ∧ ∃ v, S (Str.ofString "0") = S v ∧ ∃ n, PySem.intText? (Txt.rstripChars u v) = some n ∧ (Txt.rstripChars u v).length ≤ 640 ∧ mulOk sg n ∧ (Txt.rstripChars u v).length ≤ 1000000 ∧
            Q (V.d (PyData.tuple [PyData.int (sg * n), PyData.int (ld + (((Str.ofString (toString row)).length : Int) - dg + 0) - ((Txt.rstripChars u v).length : Int) + 1)])))) := by
  subst hrow
  have hs0 : 0 < s := by omega
  have hK : IsNd R (k + zz) := by rw [hR]; exact hk.scale hs0 zz
  have hR0 : 0 < R := by rw [hR]; exact Nat.mul_pos hs0 (Nat.pow_pos (by decide))
  have hl : (Str.ofString (toString (R : Int))).length = k + zz := fig_nd hK hR0
  have hstrip : Txt.rstripChars (Str.ofString (toString (R : Int))) (Str.ofString "0") = fig s := strip_fig hR hs
  have hkl : (fig s).length = k := fig_nd hk hs0
  rw [hl]
  have e0 : ∀ z : Int, z - dg + 0 = z - dg := fun z => by omega
  rw [e0]
  unfold rndV at h
  rw [h1] at h
  unfold leadO at h
  refine ⟨?_, by omega, fun c => ?_, fun c => ⟨fun c1 => ?_, fun c1 => ⟨_, rfl, by rw [hl]; omega, _, rfl, s, ?_⟩⟩⟩
  · exact Nat.lt_of_lt_of_le hK.1 (Nat.pow_le_pow_right (by decide) (by omega))
  · rw [if_neg (by omega), if_pos c] at h; exact h
  · rw [if_pos c1] at h; exact h
  · rw [if_neg c1, if_neg c] at h
    rw [hstrip, hkl]
    refine ⟨fig_reads (by omega), by omega, .inl ?_, by omega, ?_⟩
    · rw [hsg]; split <;> decide
    · have e : sg * (s : Int) = if 0 < m then (s : Int) else -(s : Int) := by rw [hsg]; split <;> omega
      rw [e]
      exact h
theorem seq_step3 {a b c d : XE} {σ : Sg} {P : Post} (Mid : Sg → Prop) (h1 : ∀ N : Sg → Prop, (∀ τ, Mid τ → N τ) → XE.seq a (XE.seq b c) σ ⟨N, P.ret, P.brk, P.cont, P.exc⟩) (h2 : ∀ τ, Mid τ → d τ P) : XE.seq a (XE.seq b (XE.seq c d)) σ P := h1 _ h2
theorem half_int (p q : Nat) : ((q : Int) < 2 * ((p % q : Nat) : Int) → ((half p q : Nat) : Int) = ((p / q : Nat) : Int) + 1) ∧ (¬ (q : Int) < 2 * ((p % q : Nat) : Int) → 2 * ((p % q : Nat) : Int) = (q : Int) → ((p / q : Nat) : Int) % 2 = 1 → ((half p q : Nat) : Int) = ((p / q : Nat) : Int) + 1) ∧
    (¬ (q : Int) < 2 * ((p % q : Nat) : Int) → ¬ (2 * ((p % q : Nat) : Int) = (q : Int) ∧ ((p / q : Nat) : Int) % 2 = 1) → ((half p q : Nat) : Int) = ((p / q : Nat) : Int)) := by
  unfold half
  generalize p / q = u
  generalize p % q = v
  refine ⟨fun h => ?_, fun h h1 h2 => ?_, fun h h1 => ?_⟩ <;> split <;> omega
section
variable {cx : Cx} (g : Good cx)
include g
theorem ok_rou : OK cx 1 "_law_round" rouSp := by
  k_extra "okd"
  case hS =>
    intro ds Q X h
    unfold rouSp at h
    k_extra "open"
    · rename_i a b dg t
      refine ⟨rfl, ?_⟩
      obtain ⟨m, e, ⟨n1, n2, n3⟩, ha, hb, d1, d2, t1, t2, h⟩ := h
      simp only [List.cons_append, List.nil_append, List.map, bindS]
      have p10 : ∀ x : Nat, (0 : Int) < 10 ^ x := fun x => Int.pow_pos (by decide)
      -- nought
      refine seq_step (fun τ => ¬ a = 0 ∧ Keep [("ten", I 0), ("top", I t), ("digits", I dg), ("b", I b), ("a", I a)] τ) (fun N hN => ?_) (fun τ kk => ?_)
      · k_extra "sim"
        refine ⟨fun c => ?_, fun c => hN _ ⟨c, Keep.new rfl (Keep.new rfl (Keep.new rfl (Keep.new rfl (Keep.new rfl trivial))))⟩⟩
        have hm : m = 0 := Decidable.byContradiction fun q => Int.mul_ne_zero q (Int.ne_of_gt (p10 e.toNat)) (ha.symm.trans c)
        unfold rndV at h
        rw [IsRnd.eq (.inl ⟨hm, rfl⟩)] at h
        exact h
      obtain ⟨ha0, kk⟩ := kk
      have hm : m ≠ 0 := fun q => ha0 (by rw [ha, q, Int.zero_mul])
      have hM : 0 < m.natAbs := by omega
      have sgn : 0 < a ↔ 0 < m := by
        rw [ha]
        exact ⟨fun q => by
          rcases Int.lt_or_le 0 m with c | c
          · exact c
          · have := Int.mul_nonpos_of_nonpos_of_nonneg c (Int.le_of_lt (p10 e.toNat)); omega, fun q => Int.mul_pos q (p10 _)⟩
      obtain ⟨sg, hsg⟩ : ∃ sg : Int, sg = if 0 < m then 1 else -1 := ⟨_, rfl⟩
      -- the sign
      refine seq_step (Keep [("sign", I sg), ("ten", I 0), ("top", I t), ("digits", I dg), ("b", I b), ("a", I a)]) (fun N hN => ?_) (fun τ kk => ?_)
      · obtain ⟨v6, v5, v4, v3, v1, _⟩ := id kk
        have v2 := v1
        k_extra "simV"
        exact ⟨fun c => hN _ (by rw [hsg, if_pos (sgn.mp c)]; exact Keep.new rfl kk), fun c => hN _ (by rw [hsg, if_neg fun q => c (sgn.mpr q)]; exact Keep.new rfl kk)⟩
      obtain ⟨N0, hN⟩ := exists_nd m.natAbs
      have hN1 := hN.pos hM
      have hN18 : N0 ≤ 18 := hN.le n1
      have eA : (if a < 0 then -a else a) = ((m.natAbs * 10 ^ e.toNat : Nat) : Int) := by
        have : a.natAbs = m.natAbs * 10 ^ e.toNat := by rw [ha, Int.natAbs_mul, Int.natAbs_pow]; rfl
        rw [← this]; split <;> omega
      have eB : b = ((10 ^ (-e).toNat : Nat) : Int) := by rw [hb]; simp
      have hndA := hN.scale hM e.toNat
      have hndB : IsNd (10 ^ (-e).toNat) ((-e).toNat + 1) := .of (Nat.le_refl _) (Nat.pow_lt_pow_right (by decide) (by omega))
      have hA0 : 0 < m.natAbs * 10 ^ e.toNat := Nat.mul_pos hM (Nat.pow_pos (by decide))
      have hB0 : 0 < 10 ^ (-e).toNat := Nat.pow_pos (by decide)
      obtain ⟨s, k, zz, r1, r2, r3, r4⟩ := rou_plan (e := e) hm hN d1
      obtain ⟨Bn, hB⟩ : ∃ B : Nat, 10 ^ (-e).toNat = B := ⟨_, rfl⟩
      generalize hA : m.natAbs * 10 ^ e.toNat = A at eA hndA hA0 r1
      rw [hB] at eB hndB hB0 r1
      obtain ⟨ld, hld⟩ : ∃ ld : Int, ld = N0 + e - 1 := ⟨_, rfl⟩
      rw [← hld] at r1 r4
      have bA : A < 10 ^ (N0 + e.toNat) := hndA.1
      have bB : Bn < 10 ^ ((-e).toNat + 1) := hndB.1
      have small : ∀ {n z : Nat}, n < 10 ^ z → z ≤ 200 → (n : Int).natAbs < 10 ^ 500 := fun {n z} h1 h2 => Nat.lt_of_lt_of_le h1 (Nat.pow_le_pow_right (by decide) (by omega))
      -- the lead
      refine seq_step3 (Keep [("lead", I ld), ("a", I A), ("sign", I sg), ("ten", I 0), ("top", I t), ("digits", I dg), ("b", I Bn)]) (fun N hN => ?_) (fun τ kk => ?_)
      · obtain ⟨k1, v6, v5, v4, v2, v1, _⟩ := id kk
        have v3 := v1
        k_extra "simV"
        have eLA : (Str.ofString (toString (A : Int))).length = N0 + e.toNat := fig_nd hndA hA0
        have eLB : (Str.ofString (toString (Bn : Int))).length = (-e).toNat + 1 := fig_nd hndB hB0
        have eld : ((N0 + e.toNat : Nat) : Int) - (((-e).toNat + 1 : Nat) : Int) = ld := by omega
        simp only [eA, eB, eLA, eLB, eld]
        refine ⟨small bA (by omega), by omega, small bB (by omega), by omega, ⟨by omega, by omega, by decide⟩, mulOk_pow bA (by omega) (by omega), ⟨by omega, by omega, by decide⟩, mulOk_pow bB (by omega) (by omega), fun c => absurd c ?_, fun _ => hN _ (Keep.new rfl (Keep.new rfl ⟨k1, v6, v5, v4, eB ▸ v2, trivial⟩))⟩
        generalize hx' : (max 0 (-ld)).toNat = x'
        generalize hy' : (max 0 ld).toNat = y'
        have lo : 10 ^ (N0 + e.toNat - 1) ≤ A := hndA.lo hA0
        have h1 : Bn * 10 ^ y' ≤ A * 10 ^ x' := by
          rw [← hB, ← Nat.pow_add, show (-e).toNat + y' = N0 + e.toNat - 1 + x' by omega, Nat.pow_add]
          exact Nat.mul_le_mul_right _ lo
        have h2 : ((Bn * 10 ^ y' : Nat) : Int) ≤ ((A * 10 ^ x' : Nat) : Int) := Int.ofNat_le.mpr h1
        have e1 : ((Bn * 10 ^ y' : Nat) : Int) = (Bn : Int) * 10 ^ y' := by simp
        have e2 : ((A * 10 ^ x' : Nat) : Int) = (A : Int) * 10 ^ x' := by simp
        rw [← e1, ← e2]; omega
      generalize hx : (max 0 (dg - 1 - ld)).toNat = x at r1
      generalize hy : (max 0 (-(dg - 1 - ld))).toNat = y at r1
      -- both scaled
      refine seq_step3 (Keep [("b", I ((Bn * 10 ^ y : Nat) : Int)), ("a", I ((A * 10 ^ x : Nat) : Int)), ("lead", I ld), ("sign", I sg), ("ten", I 0), ("top", I t), ("digits", I dg)]) (fun N hN => ?_) (fun τ kk => ?_)
      · obtain ⟨v6, v5, v4, k2, k3, v1, v2, _⟩ := id kk
        have v3 := v1
        k_extra "simV"
        have eA' : (A : Int) * 10 ^ x = ((A * 10 ^ x : Nat) : Int) := by simp
        have eB' : (Bn : Int) * 10 ^ y = ((Bn * 10 ^ y : Nat) : Int) := by simp
        simp only [hx, hy, eA', eB']
        exact ⟨⟨by omega, by omega, by decide⟩, mulOk_pow bA (by omega) (by omega), ⟨by omega, by omega, by decide⟩, mulOk_pow bB (by omega) (by omega), hN _ (Keep.new rfl (Keep.new rfl (Keep.upd rfl ⟨v6, v4, k2, k3, v1, trivial⟩)))⟩
      have hbig : k + zz ≤ 400 := by
        refine (r3.scale (show 0 < s by omega) zz).le ?_
        rw [← r1]
        refine Nat.lt_of_le_of_lt (half_le _ _) ?_
        have h1 : A * 10 ^ x < 10 ^ (N0 + e.toNat) * 10 ^ x := (Nat.mul_lt_mul_right (Nat.pow_pos (by decide))).mpr bA
        rw [← Nat.pow_add] at h1
        have h2 : 10 ^ (N0 + e.toNat + x) ≤ 10 ^ 399 := Nat.pow_le_pow_right (by decide) (by omega)
        have h3 : 10 ^ 399 * 1 < 10 ^ 399 * 10 := (Nat.mul_lt_mul_left (Nat.pow_pos (by decide))).mpr (by decide)
        have h4 : 10 ^ 400 = 10 ^ 399 * 10 := Nat.pow_succ 10 399
        omega
      have hBx : 0 < Bn * 10 ^ y := Nat.mul_pos hB0 (Nat.pow_pos (by decide))
      generalize A * 10 ^ x = A2 at kk r1
      generalize Bn * 10 ^ y = B2 at kk r1 hBx
      -- the row
      refine seq_step3 (Keep [("row", I ((half A2 B2 : Nat) : Int)), ("lead", I ld), ("sign", I sg), ("ten", I 0), ("top", I t), ("digits", I dg)]) (fun N hN => ?_) (fun τ kk => ?_)
      · obtain ⟨v2, v1, kk⟩ := kk
        have v3 := v1; have v4 := v1; have v5 := v1; have v6 := v1
        k_extra "simV"
        simp only [cast_div _ _ hBx, cast_mod _ _ hBx, fmod_pos (show (0:Int) < 2 by decide)]
        obtain ⟨f1, f2, f3⟩ := half_int A2 B2
        have add : ((half A2 B2 : Nat) : Int) = ((A2 / B2 : Nat) : Int) + 1 → N (upd (upd (upd τ "row" (I ((A2 / B2 : Nat) : Int))) "rest" (I ((A2 % B2 : Nat) : Int))) "row" (I (((A2 / B2 : Nat) : Int) + 1))) := fun q => hN _ (by rw [q]; exact Keep.new rfl (Keep.upd rfl (Keep.upd rfl kk)))
        have stay : ((half A2 B2 : Nat) : Int) = ((A2 / B2 : Nat) : Int) → N (upd (upd τ "row" (I ((A2 / B2 : Nat) : Int))) "rest" (I ((A2 % B2 : Nat) : Int))) := fun q => hN _ (by rw [q]; exact Keep.upd rfl (Keep.new rfl kk))
        have hB2 : (B2 : Int) ≠ 0 := by omega
        exact ⟨hB2, hB2, .inl (by decide), fun c => add (f1 c), fun c => ⟨.inl (by decide), fun c4 => ⟨by decide, fun c5 => add (f2 c c4 c5), fun c5 => stay (f3 c fun q => c5 q.2)⟩, fun c4 => stay (f3 c fun q => c4 q.1)⟩⟩
      obtain ⟨v1, v2, v3, v4, v5, v6, _⟩ := kk
      k_extra "simV"
      exact rou_leaf r1 r2 r3 hbig (r4 t) hsg t1 h _ rfl
end

-- the part N10
theorem conv_eq {k to : Int} {v : PyData} {w r d t : Int} (h : k = to) : convO k to v w r d t = some v := if_pos h
theorem conv_none {k to : Int} {v : PyData} {w r d t : Int} (h : ¬ k = to) (h1 : k = 4 ∨ k = 5 ∨ to = 4 ∨ to = 5) : convO k to v w r d t = none := by unfold convO; rw [if_neg h, if_pos h1]
theorem conv_int {k to : Int} {v : PyData} {w r d t : Int} (h : ¬ k = to) (h1 : ¬ k = 4) (h2 : ¬ k = 5) (h3 : to = 0) : convO k to v w r d t = (fitO (cutI (man v).1 (man v).2) w).map .int := by
  unfold convO; rw [if_neg h, if_neg (by omega), if_neg (by omega), if_neg (by omega)]
theorem conv_real {k to : Int} {v : PyData} {w r d t : Int} (h : ¬ k = to) (h1 : ¬ k = 4) (h2 : ¬ k = 5) (h3 : to = 1 ∨ to = 2) : convO k to v w r d t = (rnd (man v).1 (man v).2 (if to = 1 then r else d) t).map tupD := by
  unfold convO; rw [if_neg h, if_neg (by omega), if_neg (by omega), if_pos h3]
theorem conv_cplx {k to : Int} {v : PyData} {w r d t : Int} (h : ¬ k = to) (h1 : ¬ k = 4) (h2 : ¬ k = 5) (h3 : to = 3) : convO k to v w r d t = (rnd (man v).1 (man v).2 r t).map fun p => .tuple [tupD p, .tuple [.int 0, .int 0]] := by
  unfold convO; rw [if_neg h, if_neg (by omega), if_pos h3]
theorem fit_leaf {k to : Int} {v : PyData} {m e w r d t : Int} {Q : V → Prop} (h : Q (optL (convO k to v w r d t))) (c0 : ¬ k = to) (h1 : ¬ k = 4) (h2 : ¬ k = 5) (h3 : to = 0) (hv : man v = (m, e)) :
    Q (optL (Option.map PyData.int (fitO ((m * 10 ^ e.toNat).tdiv (10 ^ (-e).toNat)) w))) := by
  rw [conv_int c0 h1 h2 h3, hv] at h
  exact h
theorem p10ne (x : Nat) : ¬ (10 : Int) ^ x = 0 := Int.ne_of_gt (Int.pow_pos (by decide))
section
variable {cx : Cx} (g : Good cx)
include g
theorem ok_lc : OK cx 2 "_law_converted" lcSp := by
  have h1 := ok_fr g
  have h2 := ok_ct g
  have h3 := ok_lf g
  have h4 := ok_rou g
  have hlim := limIs g
  k_extra "ok"
  case hS =>
    clear h1 h2 h3 h4 hlim
    intro ds Q X h
    unfold lcSp at h
    k_extra "open"
    · rename_i v k to w r d t
      refine ⟨rfl, ?_⟩
      obtain ⟨⟨hl, hk, ht1, ht2⟩, h⟩ := h
      have hl' := hl
      unfold limOk at hl'
      simp only [List.map, bindS]
      -- the same kind
      refine seq_step (fun τ => ¬ k = to ∧ Keep [("limits", .lim w r d t), ("to", I to), ("of", I k), ("value", .d v)] τ) (fun N hN => ?_) (fun τ kk => ?_)
      · k_extra "sim"
        refine ⟨fun c => ?_, fun c => hN _ ⟨c, Keep.new rfl (Keep.new rfl (Keep.new rfl (Keep.new rfl trivial)))⟩⟩
        rw [conv_eq c] at h; exact h
      obtain ⟨c0, kk⟩ := kk
      -- no number
      refine seq_step (fun τ => (¬ k = 4 ∧ ¬ k = 5 ∧ ¬ to = 4 ∧ ¬ to = 5) ∧ Keep [("limits", .lim w r d t), ("to", I to), ("of", I k), ("value", .d v)] τ) (fun N hN => ?_) (fun τ' kk' => ?_)
      · obtain ⟨kl, kt, ko, kv, _⟩ := id kk
        k_extra "sim"
        simp only [↓loc_var kt, ↓loc_var ko]
        k_extra "sim"
        have e4 : k = 4 ∨ k = 5 ∨ to = 4 ∨ to = 5 → Q (V.d (.list [])) := fun c => by rw [conv_none c0 c] at h; exact h
        exact ⟨fun c => e4 (c.elim .inl fun c => .inr (.inl c)), fun c1 => ⟨fun c => e4 (.inr (.inr c)), fun c2 => hN _ ⟨⟨fun c => c1 (.inl c), fun c => c1 (.inr c), fun c => c2 (.inl c), fun c => c2 (.inr c)⟩, kk⟩⟩⟩
      obtain ⟨⟨n1, n2, n3, n4⟩, kk⟩ := kk'
      -- the number
      refine seq_step (fun τ => ∃ m e, man v = (m, e) ∧ numOk m e ∧ Keep [("x", tupV (m, e)), ("limits", .lim w r d t), ("to", I to)] τ) (fun N hN => ?_) (fun τ kk' => ?_)
      · have fin : ∀ m e, man v = (m, e) → numOk m e → N (upd τ' "x" (tupV (m, e))) := fun m e a b => hN _ ⟨m, e, a, b, Keep.new rfl ⟨kk.1, kk.2.1, trivial⟩⟩
        obtain ⟨kl, kt, ko, kv, _⟩ := id kk
        k_extra "sim"
        simp only [↓loc_var kv, ↓loc_var ko]
        k_extra "sim"
        rcases okv_cases hk with ⟨n, rfl, rfl, q1⟩ | ⟨m, e, rfl, q, q1⟩ | ⟨m, e, y, rfl, rfl, q1⟩ | q | q
        · exact ⟨fun _ => fin _ _ rfl q1, fun c => absurd rfl c⟩
        · exact ⟨fun c => by omega, fun _ => ⟨fun c => by omega, fun _ => fin _ _ rfl q1⟩⟩
        · exact ⟨fun c => by omega, fun _ => ⟨fun c => ⟨by decide, _, rfl, fin _ _ rfl q1⟩, fun c => absurd rfl c⟩⟩
        · exact absurd q n1
        · exact absurd q n2
      obtain ⟨m, e, hm, q1, v1, v2, v3, _⟩ := kk'
      have v4 := v1; have v5 := v1; have v6 := v1
      k_extra "simV"
      refine ⟨q1, fun c2 => ⟨p10ne _, ⟨by omega, by omega⟩, fit_leaf h c0 n1 n2 c2 hm⟩, fun c2 => ⟨fun c3 => ⟨m, e, q1, rfl, rfl, by omega, by omega, by omega, by omega, ?_⟩, fun c3 => ⟨m, e, q1, rfl, rfl, by omega, by omega, by omega, by omega, ?_⟩⟩⟩
      · rw [conv_real c0 n1 n2 (.inr c3), if_neg (by omega), hm] at h
        unfold rndV
        cases ho : rnd m e d t with
        | none => rw [ho] at h; k_extra "simL"; exact h
        | some p => rw [ho] at h; k_extra "simL"; exact ⟨fun c => by omega, fun _ => h⟩
      · unfold rndV
        by_cases c4 : to = 3
        · rw [conv_cplx c0 n1 n2 c4, hm] at h
          cases ho : rnd m e r t with
          | none => rw [ho] at h; k_extra "simL"; exact h
          | some p => rw [ho] at h; k_extra "simL"; exact ⟨fun _ => h, fun c => absurd c4 c⟩
        · rw [conv_real c0 n1 n2 (.inl (by omega)), if_pos (by omega), hm] at h
          cases ho : rnd m e r t with
          | none => rw [ho] at h; k_extra "simL"; exact h
          | some p => rw [ho] at h; k_extra "simL"; exact ⟨fun c => absurd c c4, fun _ => h⟩
end

-- the part N11
noncomputable def LawOK (cx : Cx) : Prop := ∃ (a : Addr) (oc : Value) (od : Option Addr) (osl : Array (Option Value)) (name qual : Str) (params : Arguments) (body : List Stmt) (scope : Scope) (dV kV doc pm cdv ct : Value) (an : Option Addr) (T : XE),
  nsIn cx.K mainGlobals "law" = some (some (.ref a)) ∧ cx.K.lookup a = some ⟨oc, od, .func (fnOf name qual params body scope dV kV doc pm an cdv ct), osl⟩ ∧ SL cx 7 scope body T ∧
  ∀ xs, intsOk xs → T (bindS ["script"] [.d (.list xs)] fun _ => none) (funPost (fun v => v = B true) False)
theorem LawOK.mk {cx : Cx} {a : Addr} {oc : Value} {od : Option Addr} {osl : Array (Option Value)} {name qual : Str} {params : Arguments} {body body' : List Stmt} {scope scope' : Scope} {dV kV doc pm cdv ct : Value} {an : Option Addr} {T : XE}
  (hns : nsIn cx.K mainGlobals "law" = some (some (.ref a))) (ho : cx.K.lookup a = some ⟨oc, od, .func (fnOf name qual params body' scope' dV kV doc pm an cdv ct), osl⟩) (e2 : body' = body) (e3 : scope' = scope) (hT : SL cx 7 scope body T)
  (hS : ∀ xs, intsOk xs → T (bindS ["script"] [.d (.list xs)] fun _ => none) (funPost (fun v => v = B true) False)) : LawOK cx := by
  subst e2 e3
  exact ⟨a, oc, od, osl, name, qual, params, _, _, dV, kV, doc, pm, cdv, ct, an, T, hns, ho, hT, hS⟩
noncomputable abbrev KB (xs : List PyData) (w r d t : Int) : List (String × V) := [("limits", .lim w r d t), ("top", I t), ("width", I w), ("nums", .d (.list xs))]
noncomputable abbrev KX (xs : List PyData) (w r d t x y : Int) : List (String × V) := ("y", I y) :: ("x", I x) :: KB xs w r d t
theorem texts_step {tx ii row : Str} {a : SE} {B R : XE} {σ : Sg} {P : Post} (Mid : Sg → Prop) (h1 : ∀ (ad : Addr) (N : Sg → Prop), (∀ τ, Mid τ → N τ) → a (upd σ tx (.adr ad)) (fun d => ∃ cs, cs.length ≤ 100 ∧ d = .d (.tuple (cs.map PyData.int)) ∧ textsP tx ii row ad B cs [] (upd σ tx (.adr ad)) N) P.exc)
    (h2 : ∀ τ, Mid τ → R τ P) : XE.texts tx ii row a B R σ P := fun ad => h1 ad _ h2
theorem textsP_two {tx ii row : Str} {ad : Addr} {B : XE} {K : Sg → Prop} {σ : Sg} (Inv : Sg → Prop) (G : Str → Prop) {i j : Int} (h0 : Inv σ)
    (turn : ∀ c ∈ [i, j], ∀ σ, Inv σ → ∀ Nx : Sg → Prop, (∀ τ r, Inv τ → τ row = some (S r) → G r → Nx τ) → B (upd σ ii (I c)) ⟨Nx, fun _ => False, fun _ => False, fun _ => False, False⟩)
    (ht : ∀ τ, Inv τ → τ tx = some (.adr ad)) (hK : ∀ r1 r2 τ, Inv τ → G r1 → G r2 → K (upd τ tx (.d (.list [.str r1, .str r2])))) : textsP tx ii row ad B [i, j] [] σ K := by
  refine turn i (by simp) σ h0 _ fun τ r1 h1 g1 l1 => ⟨r1, g1, ht τ h1, ?_⟩
  refine turn j (by simp) τ h1 _ fun τ r2 h2 g2 l2 => ⟨r2, g2, ht τ h2, ?_⟩
  exact hK r1 r2 τ h2 l1 l2
/-- a text of signs that can be laid -/
noncomputable def sOk (s : Str) : Prop := ∀ c ∈ s.cps.toList, c < 0x110000
noncomputable def tOk (s : Str) : Prop := s.length ≤ 10 ∧ sOk s
theorem sOk_nil : sOk (Str.ofString "") := fun c hc => by
  rw [show (Str.ofString "").cps.toList = [] by decide +kernel] at hc
  cases hc
theorem sOk.app {a b : Str} (ha : sOk a) (hb : sOk b) : sOk (a ++ b) := fun c hc => by
  rw [cps_toList_append, List.mem_append] at hc
  rcases hc with h | h
  · exact ha c h
  · exact hb c h
theorem sOk.lay {a : Str} (ha : sOk a) : PyData.strOk a = true := by
  unfold PyData.strOk
  rw [Array.all_eq_true]
  intro i hi
  exact decide_eq_true (ha _ (by simp))
theorem sign_ok : ∀ i : Fin 7, (Str.ofString " !AZa0~").cps.getD i.val 0 < 0x110000 := by decide +kernel
theorem sign_len : (Str.ofString " !AZa0~").length = 7 := by decide +kernel
theorem sOk_item {i : Int} (h0 : 0 ≤ i) (h : i < 7) : sOk (Txt.item (Str.ofString " !AZa0~") i) := fun c hc => by
  rw [W.item_meets ⟨h0, by rw [sign_len]; exact h⟩] at hc
  have e : c = (Str.ofString " !AZa0~").cps.getD i.toNat 0 := by simpa using hc
  rw [e]
  exact sign_ok ⟨i.toNat, by omega⟩
theorem lay_str {s : Str} (h : sOk s) : (PyData.list [PyData.str s]).canLay0 = true := by
  simp only [PyData.canLay0, PyData.canLayAll0, h.lay, Bool.and_self]
theorem rel_lookup {op : Str} {b : Bool} {o : Int} (h : (op, b) ∈ relRows o) : (relRows o).lookup op = some b := by
  unfold relRows at h ⊢
  simp only [List.mem_cons, Prod.mk.injEq, List.not_mem_nil, or_false] at h
  have ne : ∀ {a b : String}, a ≠ b → (Str.ofString a == Str.ofString b) = false := fun h => beq_eq_false_iff_ne.mpr (ofString_ne h)
  rcases h with ⟨rfl, rfl⟩ | ⟨rfl, rfl⟩ | ⟨rfl, rfl⟩ | ⟨rfl, rfl⟩ | ⟨rfl, rfl⟩ | ⟨rfl, rfl⟩ <;> simp only [List.lookup, beq_self_eq_true, ne (show "ne" ≠ "eq" by decide), ne (show "lt" ≠ "eq" by decide), ne (show "lt" ≠ "ne" by decide),
    ne (show "le" ≠ "eq" by decide), ne (show "le" ≠ "ne" by decide), ne (show "le" ≠ "lt" by decide), ne (show "gt" ≠ "eq" by decide), ne (show "gt" ≠ "ne" by decide), ne (show "gt" ≠ "lt" by decide), ne (show "gt" ≠ "le" by decide),
    ne (show "ge" ≠ "eq" by decide), ne (show "ge" ≠ "ne" by decide), ne (show "ge" ≠ "lt" by decide), ne (show "ge" ≠ "le" by decide), ne (show "ge" ≠ "gt" by decide)]
theorem ne_int_same {a : Int} {Q : V → Prop} (h : Q (B false)) : cmpP .NotEq (I a) (I a) Q := by
  show Q (B (!decide (a = a)))
  simpa using h
/-! what an expression is, as a whole -/
noncomputable def SEI (a : SE) (σ : Sg) (v : V) : Prop := ∀ (Q : V → Prop) (X : Prop), Q v → a σ Q X
noncomputable def LEI (l : LE) (σ : Sg) (xs : List PyData) : Prop := ∀ (Q : List V → Prop) (X : Prop), Q (xs.map V.d) → l σ Q X
theorem allD_map : ∀ (xs : List PyData) (Q : List PyData → Prop), Q xs → allD (xs.map V.d) Q
  | [], Q, h => h
  | x :: r, Q, h => allD_map r (fun ys => Q (x :: ys)) h
theorem SEI.loc {x : Str} {σ : Sg} {v : V} (h : σ x = some v) : SEI (SE.loc x) σ v := fun Q X q => ⟨v, h, q⟩
theorem SEI.const {σ : Sg} {v : V} : SEI (fun _ Q _ => Q v) σ v := fun _ _ q => q
theorem SEI.glob {x : Str} {σ : Sg} {v : V} (h : ∀ (Q : V → Prop) (X : Prop), SE.glob x σ Q X = Q v) : SEI (SE.glob x) σ v := fun Q X q => by rw [h]; exact q
theorem LEI.nil {σ : Sg} : LEI (fun _ Q _ => Q []) σ [] := fun _ _ q => q
theorem LEI.cons {a : SE} {b : LE} {σ : Sg} {x : PyData} {xs : List PyData} (ha : SEI a σ (.d x)) (hb : LEI b σ xs) : LEI (LE.cons a b) σ (x :: xs) := fun Q X q => ha _ X (hb _ X q)
theorem SEI.tuple {l : LE} {σ : Sg} {xs : List PyData} (h : LEI l σ xs) : SEI (SE.tuple l) σ (.d (.tuple xs)) := fun Q X q => h _ X (allD_map xs (fun ys => Q (.d (.tuple ys))) q)
theorem SEI.list {l : LE} {σ : Sg} {xs : List PyData} (h : LEI l σ xs) : SEI (SE.list l) σ (.d (.list xs)) := fun Q X q => h _ X (allD_map xs (fun ys => Q (.d (.list ys))) q)
theorem SEI.neg {a : SE} {σ : Sg} {n : Int} (h : SEI a σ (I n)) : SEI (SE.neg a) σ (I (-n)) := fun Q X q => h _ X q
theorem SEI.gt {a b : SE} {σ : Sg} {x y : Int} (ha : SEI a σ (I x)) (hb : SEI b σ (I y)) : SEI (SE.cmp .Gt a b) σ (B (decide (y < x))) := fun Q X q => ha _ X (hb _ X q)
theorem SEI.sub0 {a : SE} {σ : Sg} {x : PyData} {r : List PyData} (ha : SEI a σ (.d (.list (x :: r)))) : SEI (SE.sub a (fun _ Q _ => Q (I 0))) σ (.d x) := fun Q X q => ha _ X ⟨by decide, x, rfl, q⟩
theorem SEI.assign {a : SE} {σ : Sg} {v : V} {x : Str} {P : Post} (h : SEI a σ v) (hP : P.next (upd σ x v)) : XE.assign x a σ P := h _ _ hP
theorem upto_mem {n : Nat} {d : V} (h : d ∈ upto n) : ∃ j : Nat, j < n ∧ d = I j := by
  unfold upto at h
  obtain ⟨j, hj, e⟩ := List.mem_map.mp h
  exact ⟨j, List.mem_range.mp hj, e.symm⟩
theorem le_step {x y : Int} {Q : V → Prop} (h : Q (B (decide (x ≤ y)))) : cmpP .LtE (I x) (I y) Q := h
theorem lay_conv {k to : Int} {v : PyData} {w r d t : Int} (h1 : v.canLay0 = true) (h2 : v.depth ≤ 5) : (PyData.list (convO k to v w r d t).toList).canLay0 = true ∧ (PyData.list (convO k to v w r d t).toList).depth ≤ 64 := by
  have one : ∀ u : PyData, u.canLay0 = true → u.depth ≤ 5 → (PyData.list (some u).toList).canLay0 = true ∧ (PyData.list (some u).toList).depth ≤ 64 := fun u a b => by
    simp only [Option.toList, PyData.canLay0, PyData.canLayAll0, PyData.depth, PyData.depthAll, a, Bool.and_self, true_and]
    omega
  unfold convO
  split
  · exact one v h1 h2
  · split
    · exact ⟨rfl, by decide⟩
    · split
      · cases rnd (man v).1 (man v).2 r t with
        | none => exact ⟨rfl, by decide⟩
        | some p => exact one _ rfl (Nat.le_of_ble_eq_true rfl)
      · split
        · cases rnd (man v).1 (man v).2 (if to = 1 then r else d) t with
          | none => exact ⟨rfl, by decide⟩
          | some p => exact one _ rfl (Nat.le_of_ble_eq_true rfl)
        · cases fitO (cutI (man v).1 (man v).2) w with
          | none => exact ⟨rfl, by decide⟩
          | some p => exact one _ rfl (Nat.le_of_ble_eq_true rfl)
section
variable {cx : Cx} (g : Good cx)
include g
theorem ok_law : LawOK cx := by
  have h1 := (ok_pk g).mono (show 1 ≤ 7 by decide)
  have h2 := (ok_hd g)
  have h3 := (ok_wh g).mono (show 2 ≤ 7 by decide)
  have h4 := (ok_lo g).mono (show 1 ≤ 7 by decide)
  have h5 := (ok_re g).mono (show 1 ≤ 7 by decide)
  have h6 := (ok_lr g).mono (show 2 ≤ 7 by decide)
  have h7 := (ok_lc g).mono (show 2 ≤ 7 by decide)
  have h8 := (ok_lf g).mono (show 1 ≤ 7 by decide)
  have h9 := (ok_col g).mono (show 2 ≤ 7 by decide)
  have hlim := limIs g
  have hlc := limCall g
  refine' LawOK.mk ?hns ?ho ?e2 ?e3 ?hT ?hS
  case hns => rw [Good.hK (by assumption)]; k_is
  case ho => rw [Good.hK (by assumption)]; k_is
  case e2 => k_extra "wh"
  case e3 => k_extra "wh"
  case hT => k_extra "L"
  case hS =>
    clear h1 h2 h3 h4 h5 h6 h7 h8 h9 hlim hlc
    intro xs hxs
    simp only [bindS]
    obtain ⟨⟨ns, rfl⟩, hlen⟩ := hxs
    -- nums
    refine seq_step (fun τ => Keep [("nums", .d (.list ((ns.map PyData.int).take 14)))] τ) (fun N hN => ?_) (fun τ k => ?_)
    · k_extra "sim"
      exact ⟨by omega, hN _ ⟨upd_same, trivial⟩⟩
    have hxs : intsOk ((ns.map PyData.int).take 14) := ⟨⟨ns.take 14, by rw [List.map_take]⟩, Nat.le_trans (List.length_take_le _ _) (by decide)⟩
    revert k hxs
    generalize (ns.map PyData.int).take 14 = xs
    intro k hxs
    clear hlen ns
    -- width
    refine seq_step (fun τ => ∃ w, (2 ≤ w ∧ w ≤ 40) ∧ Keep [("width", I w), ("nums", .d (.list xs))] τ) (fun N hN => ?_) (fun τ k => ?_)
    · obtain ⟨k1, _⟩ := id k
      k_extra "sim"
      simp only [↓loc_var k1]
      exact ⟨⟨hxs, by decide, by decide, by decide⟩, fun v v1 v2 => hN _ ⟨2 + v, by omega, k.new rfl⟩⟩
    obtain ⟨w, hw, k⟩ := k
    -- top
    refine seq_step (fun τ => ∃ t, (3 ≤ t ∧ t ≤ 40) ∧ Keep [("top", I t), ("width", I w), ("nums", .d (.list xs))] τ) (fun N hN => ?_) (fun τ k => ?_)
    · obtain ⟨k1, k2, _⟩ := id k
      k_extra "sim"
      simp only [↓loc_var k2]
      exact ⟨⟨hxs, by decide, by decide, by decide⟩, fun v v1 v2 => hN _ ⟨3 + v, by omega, k.new rfl⟩⟩
    obtain ⟨t, ht, k⟩ := k
    -- limits
    refine seq_step (fun τ => ∃ r d, (1 ≤ r ∧ r ≤ 7 ∧ 8 ≤ d ∧ d ≤ 15) ∧ Keep [("limits", .lim w r d t), ("top", I t), ("width", I w), ("nums", .d (.list xs))] τ) (fun N hN => ?_) (fun τ k => ?_)
    · obtain ⟨k1, k2, k3, _⟩ := id k
      k_extra "sim"
      simp only [↓loc_var k1, ↓loc_var k2, ↓loc_var k3]
      exact ⟨⟨hxs, by decide, by decide, by decide⟩, fun v v1 v2 => ⟨⟨hxs, by decide, by decide, by decide⟩, fun u u1 u2 => hN _ ⟨1 + v, 8 + u, by omega, k.new rfl⟩⟩⟩
    obtain ⟨r, d, hrd, k⟩ := k
    have p2 : (0 : Int) < 2 ^ w.toNat := Int.pow_pos (by decide)
    have p2' : (2 : Int) ^ w.toNat ≤ 2 ^ 40 := by
      have h : 2 ^ w.toNat ≤ 2 ^ 40 := Nat.pow_le_pow_right (by decide) (by omega)
      have e : ((2 ^ w.toNat : Nat) : Int) = 2 ^ w.toNat := by simp
      rw [← e]; exact_mod_cast h
    have q2 : (0 : Int) < 2 ^ (w - 1).toNat := Int.pow_pos (by decide)
    have q2' : (2 : Int) ^ (w - 1).toNat ≤ 2 ^ 40 := by
      have h : 2 ^ (w - 1).toNat ≤ 2 ^ 40 := Nat.pow_le_pow_right (by decide) (by omega)
      have e : ((2 ^ (w - 1).toNat : Nat) : Int) = 2 ^ (w - 1).toNat := by simp
      rw [← e]; exact_mod_cast h
    have hl : limOk w r d t := ⟨by omega, by omega, by omega, by omega, by omega, by omega, by omega, by omega⟩
    -- x
    refine seq_step (fun τ => ∃ x : Int, x.natAbs ≤ 2 ^ 40 ∧ Keep (("x", I x) :: KB xs w r d t) τ) (fun N hN => ?_) (fun τ k => ?_)
    · obtain ⟨k1, k2, k3, k4, _⟩ := id k
      k_extra "sim"
      simp only [↓loc_var k1, ↓loc_var k2, ↓loc_var k3, ↓loc_var k4, decide_eq_true_eq, decide_eq_false_iff_not]
      refine ⟨⟨by omega, by omega, by decide⟩, ⟨hxs, by decide, by decide, p2⟩, fun v v1 v2 => ⟨by decide, ⟨hxs, by decide, by decide, by decide⟩, fun u _ _ => ⟨fun _ => ⟨.inr (.inl (by decide)), hN _ ⟨_, ?_, k.new rfl⟩⟩, fun _ => ⟨.inr (.inl (by decide)), hN _ ⟨_, ?_, k.new rfl⟩⟩⟩⟩⟩
      all_goals
        rw [fdiv_pos (by decide)]
        omega
    obtain ⟨x, hx, k⟩ := k
    -- y
    refine seq_step (fun τ => ∃ y : Int, y.natAbs ≤ 2 ^ 40 ∧ Keep (("y", I y) :: ("x", I x) :: KB xs w r d t) τ) (fun N hN => ?_) (fun τ k => ?_)
    · obtain ⟨kx, k1, k2, k3, k4, _⟩ := id k
      k_extra "sim"
      simp only [↓loc_var k1, ↓loc_var k2, ↓loc_var k3, ↓loc_var k4, decide_eq_true_eq, decide_eq_false_iff_not]
      refine ⟨⟨by omega, by omega, by decide⟩, ⟨hxs, by decide, by decide, p2⟩, fun v v1 v2 => ⟨by decide, ⟨hxs, by decide, by decide, by decide⟩, fun u _ _ => ⟨fun _ => ⟨.inr (.inl (by decide)), hN _ ⟨_, ?_, k.new rfl⟩⟩, fun _ => ⟨.inr (.inl (by decide)), hN _ ⟨_, ?_, k.new rfl⟩⟩⟩⟩⟩
      all_goals
        rw [fdiv_pos (by decide)]
        omega
    obtain ⟨y, hy, k⟩ := k
    -- x = min
    refine seq_step (fun τ => ∃ x : Int, x.natAbs ≤ 2 ^ 40 ∧ Keep (("x", I x) :: ("y", I y) :: KB xs w r d t) τ) (fun N hN => ?_) (fun τ k => ?_)
    · obtain ⟨ky, kx, kb⟩ := id k
      obtain ⟨k1, k2, k3, k4, _⟩ := id kb
      k_extra "sim"
      simp only [↓loc_var k3, ↓loc_var kx]
      exact ⟨⟨by omega, by omega, by decide⟩, hN _ ⟨_, by omega, Keep.new (z := "x") (l := ("y", I y) :: KB xs w r d t) rfl ⟨ky, kb⟩⟩⟩
    obtain ⟨x, hx, k⟩ := k
    -- y = min
    refine seq_step (fun τ => ∃ y : Int, y.natAbs ≤ 2 ^ 40 ∧ Keep (KX xs w r d t x y) τ) (fun N hN => ?_) (fun τ k => ?_)
    · obtain ⟨kx, ky, kb⟩ := id k
      obtain ⟨k1, k2, k3, k4, _⟩ := id kb
      k_extra "sim"
      simp only [↓loc_var k3, ↓loc_var ky]
      exact ⟨⟨by omega, by omega, by decide⟩, hN _ ⟨_, by omega, Keep.new (z := "y") (l := ("x", I x) :: KB xs w r d t) rfl ⟨kx, kb⟩⟩⟩
    obtain ⟨y, hy, k⟩ := k
    -- for op
    refine seq_step (Keep (KX xs w r d t x y)) (fun N hN => ?_) (fun τ k => ?_)
    · k_extra "sim"
      refine forP_mem (Keep (KX xs w r d t x y)) k (fun dd hd τ k N' hN' => ?_) hN
      obtain ⟨op, rfl, ho⟩ : ∃ op, dd = S op ∧ (op = "add" ∨ op = "sub" ∨ op = "mul" ∨ op = "div") := by
        simp only [List.map, List.mem_cons, List.not_mem_nil, or_false] at hd
        rcases hd with rfl | rfl | rfl | rfl
        · exact ⟨_, rfl, .inl rfl⟩
        · exact ⟨_, rfl, .inr (.inl rfl)⟩
        · exact ⟨_, rfl, .inr (.inr (.inl rfl))⟩
        · exact ⟨_, rfl, .inr (.inr (.inr rfl))⟩
      obtain ⟨ky, kx, k1, k2, k3, k4, _⟩ := id k
      k_extra "simC"
      simp only [↓loc_var kx, ↓loc_var ky, ↓loc_var k1, ↓loc_var k3]
      refine heard_int hl (by omega) (by omega) ho ?_
      refine ⟨⟨⟨by omega, by omega⟩, by omega, fun q => ?_, ?_⟩, ne_optI ⟨fun q => absurd q (by decide), fun _ => hN' _ (k.upd rfl)⟩⟩
      · rcases ho with rfl | rfl | rfl | rfl <;> exact absurd q (by decide +kernel)
      · rcases ho with rfl | rfl | rfl | rfl <;> simp
    -- n
    refine seq_step (fun τ => ∃ n : Int, (-5 ≤ n ∧ n ≤ 45) ∧ Keep (("n", I n) :: KX xs w r d t x y) τ) (fun N hN => ?_) (fun τ k => ?_)
    · obtain ⟨ky, kx, k1, k2, k3, k4, _⟩ := id k
      k_extra "sim"
      simp only [↓loc_var k4]
      exact ⟨⟨hxs, by decide, by decide, by decide⟩, fun v v1 v2 => hN _ ⟨v - 5, by omega, k.new rfl⟩⟩
    obtain ⟨n, hn, k⟩ := k
    -- for a, b
    refine seq_step (Keep (KX xs w r d t x y)) (fun N hN => ?_) (fun τ k => ?_)
    · obtain ⟨kn, ky, kx, k1, k2, k3, k4, _⟩ := id k
      k_extra "sim"
      simp only [↓loc_var kn, ↓loc_var kx, ↓loc_var k4]
      k_extra "sim"
      refine ⟨⟨hxs, by decide, by decide, by decide⟩, fun v v1 v2 => ?_⟩
      refine forP_mem (Keep (KX xs w r d t x y)) ⟨ky, kx, k1, k2, k3, k4, trivial⟩ (fun dd hd τ k N' hN' => ?_) hN
      obtain ⟨a, b, rfl, ha, hb⟩ : ∃ a b : Int, dd = .d (.tuple [.int a, .int b]) ∧ a.natAbs ≤ 2 ^ 40 ∧ (-5 ≤ b ∧ b ≤ 45) := by
        simp only [List.map, List.mem_cons, List.not_mem_nil, or_false] at hd
        rcases hd with rfl | rfl
        · exact ⟨_, _, rfl, hx, hn⟩
        · exact ⟨_, _, rfl, by omega, hn⟩
      obtain ⟨ky, kx, k1, k2, k3, k4, _⟩ := id k
      k_extra "simC"
      simp only [↓loc_var kx, ↓loc_var ky, ↓loc_var k1, ↓loc_var k3]
      refine ⟨⟨by omega, by omega, by decide⟩, ⟨by omega, by omega, by decide⟩, ?_⟩
      generalize hA : max (min a (2 ^ (w - 1).toNat - 1)) (-2 ^ (w - 1).toNat) = A
      have hA' : A.natAbs ≤ 2 ^ 40 := by omega
      exact heard_pow hl (by omega) (by omega) ⟨⟨⟨by omega, by omega⟩, by omega, fun _ => by omega, by simp⟩, ne_optI ⟨fun q => absurd q (by decide), fun _ => hN' _ (((k.upd rfl).upd rfl).upd rfl)⟩⟩
    -- texts
    refine texts_step (fun τ => ∃ s1 s2 : Str, (tOk s1 ∧ tOk s2) ∧ Keep (("texts", .d (.list [.str s1, .str s2])) :: KX xs w r d t x y) τ) (fun ad N hN => ?_) (fun τ k => ?_)
    · k_extra "sim"
      refine ⟨[8, 10], by decide, rfl, ?_⟩
      refine textsP_two (G := tOk) (Keep (("texts", .adr ad) :: KX xs w r d t x y)) (k.new rfl) (fun c hc τ k Nx hNx => ?_) (fun τ k => k.1) (fun r1 r2 τ k l1 l2 => hN _ ⟨r1, r2, ⟨l1, l2⟩, Keep.new rfl k.2⟩)
      have hc' : c = 8 ∨ c = 10 := by simpa using hc
      obtain ⟨kt, ky, kx, k1, k2, k3, k4, _⟩ := id k
      k_extra "sim"
      simp only [↓loc_var k4]
      refine ⟨⟨hxs, by omega, by omega, by decide⟩, fun v v1 v2 => ⟨by omega, ?_⟩⟩
      refine forP_inv (fun j τ => Keep (("texts", .adr ad) :: KX xs w r d t x y) τ ∧ τ "i" = some (I c) ∧ ∃ rw : Str, τ "row" = some (S rw) ∧ rw.length = j ∧ sOk rw) _ 0 _ ⟨(k.upd rfl).upd rfl, ?_, Str.ofString "", upd_at rfl, by decide +kernel, sOk_nil⟩ (fun j dd τ hj ⟨k, i1, rr, i2, i3, i4⟩ N' hN' => ?_) (fun τ ⟨k, i1, rr, i2, i3, i4⟩ => hNx τ rr k i2 ⟨?_, i4⟩)
      · rw [upd_off (by decide), upd_at rfl]
      · obtain ⟨hj1, rfl⟩ := upto_get hj
        obtain ⟨kt, ky, kx, k1, k2, k3, k4, _⟩ := id k
        k_extra "sim"
        simp only [↓loc_var i2, ↓loc_var i1, ↓loc_var k4]
        refine ⟨by decide, ⟨hxs, by omega, by omega, by decide⟩, fun u u1 u2 => ⟨⟨by omega, by omega, by decide⟩, Int.ne_of_gt (Int.pow_pos (by decide)), by decide, ?_⟩⟩
        rw [fmod_pos (show (0 : Int) < 7 by decide)]
        generalize hq : u.fdiv (7 ^ (j : Int).toNat) % 7 = q
        have q1 : 0 ≤ q ∧ q < 7 := by rw [← hq]; omega
        have hit : (Txt.item (Str.ofString " !AZa0~") q).length = 1 := rfl
        show (0 ≤ q ∧ q < ((Str.ofString " !AZa0~").length : Int) ∧ q < 1000) ∧ (rr.length + (Txt.item (Str.ofString " !AZa0~") q).length ≤ 1000 ∧ _)
        rw [sign_len, hit]
        refine ⟨by omega, by omega, hN' _ ⟨(k.upd rfl).upd rfl, ?_, _, upd_at rfl, ?_, i4.app (sOk_item q1.1 q1.2)⟩⟩
        · rw [upd_off (by decide), upd_off (by decide)]; exact i1
        · rw [Str.length_append, hit, i3]
      · rw [upto_len] at i3
        omega
    obtain ⟨s1, s2, ⟨⟨hs1, hs3⟩, hs2, hs4⟩, k⟩ := k
    -- order
    refine seq_step (Keep (("order", I (colO s1 s2)) :: ("texts", .d (.list [.str s1, .str s2])) :: KX xs w r d t x y)) (fun N hN => ?_) (fun τ k => ?_)
    · obtain ⟨kt, ky, kx, k1, k2, k3, k4, _⟩ := id k
      k_extra "sim"
      simp only [↓loc_var kt]
      k_extra "sim"
      exact ⟨by decide, by decide, ⟨by omega, by omega⟩, hN _ (k.new rfl)⟩
    -- collate and cat
    refine seq_step (Keep (("order", I (colO s1 s2)) :: ("texts", .d (.list [.str s1, .str s2])) :: KX xs w r d t x y)) (fun N hN => ?_) (fun τ k => ?_)
    · obtain ⟨ko, kt, ky, kx, k1, k2, k3, k4, _⟩ := id k
      k_extra "simC"
      simp only [↓loc_var kt, ↓loc_var ko, ↓loc_var k1]
      k_extra "simC"
      refine ⟨by decide, by decide, ⟨by omega, by omega⟩, ne_int_same ⟨fun q => absurd q (by decide), fun _ => ⟨by decide, by decide, heard_cat (by omega) (by omega) ⟨by decide, by decide, by omega, ?_⟩⟩⟩⟩
      exact ne_same ⟨_, rfl⟩ (lay_str (hs3.app hs4)) (Nat.le_of_ble_eq_true rfl) ⟨fun q => absurd q (by decide), fun _ => hN _ k⟩
    -- told
    refine seq_step (Keep (("told", .d (.list [.tuple [.int 0, .int x, .int y, .int (ordI x y)], .tuple [.int 5, .str s1, .str s2, .int (colO s1 s2)]])) :: ("texts", .d (.list [.str s1, .str s2])) :: KX xs w r d t x y)) (fun N hN => ?_) (fun τ k => ?_)
    · obtain ⟨ko, kt, ky, kx, k1, k2, k3, k4, _⟩ := id k
      k_extra "sim"
      simp only [↓loc_var kt, ↓loc_var ko, ↓loc_var kx, ↓loc_var ky]
      k_extra "sim"
      have e : ((if y < x then (1 : Int) else 0) - if x < y then 1 else 0) = ordI x y := by unfold ordI; split <;> split <;> (try split) <;> (try split) <;> omega
      rw [e]
      exact ⟨by decide, by decide, hN _ (Keep.new rfl k.2)⟩
    -- for kind
    refine seq_step (Keep (("texts", .d (.list [.str s1, .str s2])) :: KX xs w r d t x y)) (fun N hN => ?_) (fun τ k => ?_)
    · obtain ⟨ko, kt, ky, kx, k1, k2, k3, k4, _⟩ := id k
      k_extra "simC"
      simp only [↓loc_var ko]
      refine forP_mem (Keep (("texts", .d (.list [.str s1, .str s2])) :: KX xs w r d t x y)) k.2 (fun dd hd τ k N' hN' => ?_) hN
      obtain ⟨kd, one, two, due, rfl, hdue⟩ : ∃ (kd : Int) (one two : PyData) (due : Int), dd = .d (.tuple [.int kd, one, two, .int due]) ∧ ((kd = 0 ∧ one = .int x ∧ two = .int y ∧ due = ordI x y) ∨ (kd = 5 ∧ one = .str s1 ∧ two = .str s2 ∧ due = colO s1 s2)) := by
        simp only [List.map, List.mem_cons, List.not_mem_nil, or_false] at hd
        rcases hd with rfl | rfl
        · exact ⟨_, _, _, _, rfl, .inl ⟨rfl, rfl, rfl, rfl⟩⟩
        · exact ⟨_, _, _, _, rfl, .inr ⟨rfl, rfl, rfl, rfl⟩⟩
      obtain ⟨kt, ky, kx, k1, k2, k3, k4, _⟩ := id k
      k_extra "simC"
      have hh : ∀ {op : Str} {b : Bool} {Q : V → Prop} {X : Prop}, (op, b) ∈ relRows due → Q (.d (.list [.bool b])) → hdSp [I 0, S op, I kd, .d one, .d two, .lim w r d t] Q X := by
        intro op b Q X hm hQ
        rcases hdue with ⟨rfl, rfl, rfl, rfl⟩ | ⟨rfl, rfl, rfl, rfl⟩
        · exact heard_relI hl (by omega) (by omega) hm hQ
        · exact heard_relT (by omega) (by omega) hm hQ
      refine forP_mem (Keep (("rows", .rows (relRows due)) :: ("two", .d two) :: ("one", .d one) :: ("kind", I kd) :: ("texts", .d (.list [.str s1, .str s2])) :: KX xs w r d t x y)) ?_ (fun dd hd τ k N2 hN2 => ?_) (fun τ k => hN' τ k.2.2.2.2)
      · exact Keep.new rfl (Keep.upd rfl (Keep.new rfl (Keep.new rfl (Keep.new rfl k))))
      · obtain ⟨⟨op, b⟩, hm, rfl⟩ := List.mem_map.mp hd
        obtain ⟨kr, kw2, kw1, kk, kt, ky, kx, k1, k2, k3, k4, _⟩ := id k
        k_extra "simC"
        simp only [↓loc_var kr, ↓loc_var kw2, ↓loc_var kw1, ↓loc_var kk, ↓loc_var k1]
        k_extra "simC"
        exact hh hm ⟨b, rel_lookup hm, ne_same ⟨_, rfl⟩ rfl (Nat.le_of_ble_eq_true rfl) ⟨fun q => absurd q (by decide), fun _ => hN2 _ (k.upd rfl)⟩⟩
    -- real
    refine seq_step (fun τ => ∃ m e, numOk m e ∧ Keep (("real", tupV (m, e)) :: ("texts", .d (.list [.str s1, .str s2])) :: KX xs w r d t x y) τ) (fun N hN => ?_) (fun τ k => ?_)
    · obtain ⟨kt, ky, kx, k1, k2, k3, k4, _⟩ := id k
      k_extra "sim"
      simp only [↓loc_var k4, ↓loc_var k1, ↓loc_var k2]
      exact ⟨⟨hxs, by decide, by decide, by omega, by omega, by omega, by omega⟩, fun m e h => hN _ ⟨m, e, h, k.new rfl⟩⟩
    obtain ⟨m, e, hme, k⟩ := k
    -- double
    refine seq_step (fun τ => ∃ m' e', numOk m' e' ∧ Keep (("double", tupV (m', e')) :: ("real", tupV (m, e)) :: ("texts", .d (.list [.str s1, .str s2])) :: KX xs w r d t x y) τ) (fun N hN => ?_) (fun τ k => ?_)
    · obtain ⟨kq, kt, ky, kx, k1, k2, k3, k4, _⟩ := id k
      k_extra "sim"
      simp only [↓loc_var k4, ↓loc_var k1, ↓loc_var k2]
      exact ⟨⟨hxs, by decide, by decide, by omega, by omega, by omega, by omega⟩, fun m e h => hN _ ⟨m, e, h, k.new rfl⟩⟩
    obtain ⟨m', e', hme', k⟩ := k
    -- values
    refine seq_step (Keep (("values", .d (.list [.tuple [.int 0, .int x], .tuple [.int 1, .tuple [.int m, .int e]], .tuple [.int 2, .tuple [.int m', .int e']], .tuple [.int 3, .tuple [.tuple [.int m, .int e], .tuple [.int 5, .int (-1)]]], .tuple [.int 4, .bool (decide (y < x))], .tuple [.int 5, .str s1]])) ::
      ("double", tupV (m', e')) :: ("real", tupV (m, e)) :: ("texts", .d (.list [.str s1, .str s2])) :: KX xs w r d t x y)) (fun N hN => ?_) (fun τ k => ?_)
    · obtain ⟨kd, kq, kt, ky, kx, k1, k2, k3, k4, _⟩ := id k
      refine SEI.assign ?_ (hN _ (k.new rfl))
      exact .list (.cons (.tuple (.cons (.glob (gl0 _)) (.cons (.loc kx) .nil))) (.cons (.tuple (.cons (.glob (gl1 _)) (.cons (.loc kq) .nil))) (.cons (.tuple (.cons (.glob (gl2 _)) (.cons (.loc kd) .nil)))
        (.cons (.tuple (.cons (.glob (gl3 _)) (.cons (.tuple (.cons (.loc kq) (.cons (.tuple (.cons .const (.cons (.neg .const) .nil))) .nil))) .nil)))
        (.cons (.tuple (.cons (.glob (gl4 _)) (.cons (.gt (.loc kx) (.loc ky)) .nil))) (.cons (.tuple (.cons (.glob (gl5 _)) (.cons (.sub0 (.loc kt)) .nil))) .nil))))))
    -- for of, value
    refine seq_step (Keep (("double", tupV (m', e')) :: KX xs w r d t x y)) (fun N hN => ?_) (fun τ k => ?_)
    · obtain ⟨kv, kd, kq, kt, ky, kx, k1, k2, k3, k4, _⟩ := id k
      k_extra "simC"
      simp only [↓loc_var kv]
      refine forP_mem (Keep (("double", tupV (m', e')) :: KX xs w r d t x y)) ⟨kd, ky, kx, k1, k2, k3, k4, trivial⟩ (fun dd hd τ k N' hN' => ?_) hN
      obtain ⟨kd, v, rfl, hv, hv1, hv2⟩ : ∃ (kd : Int) (v : PyData), dd = .d (.tuple [.int kd, v]) ∧ okv kd v ∧ v.canLay0 = true ∧ v.depth ≤ 5 := by
        simp only [List.map, List.mem_cons, List.not_mem_nil, or_false] at hd
        rcases hd with rfl | rfl | rfl | rfl | rfl | rfl
        · exact ⟨_, _, rfl, ⟨rfl, by omega, by decide, by decide⟩, rfl, Nat.le_of_ble_eq_true rfl⟩
        · exact ⟨_, _, rfl, ⟨.inl rfl, hme⟩, rfl, Nat.le_of_ble_eq_true rfl⟩
        · exact ⟨_, _, rfl, ⟨.inr rfl, hme'⟩, rfl, Nat.le_of_ble_eq_true rfl⟩
        · exact ⟨_, _, rfl, ⟨rfl, hme⟩, rfl, Nat.le_of_ble_eq_true rfl⟩
        · exact ⟨_, _, rfl, rfl, rfl, Nat.le_of_ble_eq_true rfl⟩
        · exact ⟨_, _, rfl, rfl, by simp only [PyData.canLay0, hs3.lay], Nat.le_of_ble_eq_true rfl⟩
      k_extra "simC"
      refine ⟨by decide, ?_⟩
      refine forP_mem (Keep (("value", .d v) :: ("of", I kd) :: ("double", tupV (m', e')) :: KX xs w r d t x y)) (Keep.new rfl (Keep.new rfl k)) (fun dd hd τ k N2 hN2 => ?_) (fun τ k => hN' τ k.2.2)
      obtain ⟨to, hto, rfl⟩ := upto_mem hd
      have hto' : to < 6 := hto
      obtain ⟨kv, ko, kd, ky, kx, k1, k2, k3, k4, _⟩ := id k
      k_extra "simC"
      simp only [↓loc_var kv, ↓loc_var ko, ↓loc_var k1]
      exact heard_conv hl hv (by omega) (by omega) ⟨⟨hl, hv, by omega, by omega⟩, ne_same ⟨_, rfl⟩ (lay_conv hv1 hv2).1 (lay_conv hv1 hv2).2 ⟨fun q => absurd q (by decide), fun _ => hN2 _ (k.upd rfl)⟩⟩
    -- neg, not
    refine seq_step (Keep (("double", tupV (m', e')) :: KX xs w r d t x y)) (fun N hN => ?_) (fun τ k => ?_)
    · obtain ⟨kd, ky, kx, k1, k2, k3, k4, _⟩ := id k
      k_extra "simC"
      simp only [↓loc_var kx, ↓loc_var ky, ↓loc_var k1, ↓loc_var k3]
      refine heard_neg (by omega) (by omega) ⟨⟨by omega, by omega⟩, ne_optI ⟨fun q => absurd q (by decide), fun _ => ?_⟩⟩
      have e : (!decide (y < x)) = decide (x ≤ y) := by
        by_cases c : y < x
        · rw [decide_eq_true c, decide_eq_false (by omega)]; rfl
        · rw [decide_eq_false c, decide_eq_true (by omega)]; rfl
      refine heard_not (b := decide (y < x)) (X := False) ?_
      refine le_step (allD_map [.bool (decide (x ≤ y))] _ ?_)
      rw [e]
      exact ne_same ⟨_, rfl⟩ rfl (Nat.le_of_ble_eq_true rfl) ⟨fun q => absurd q (by decide), fun _ => hN _ k⟩
    -- neg of the double
    obtain ⟨kd, ky, kx, k1, k2, k3, k4, _⟩ := id k
    k_extra "simC"
    simp only [↓loc_var kd, ↓loc_var k1]
    refine heard_negR ⟨by decide, _, rfl, by decide, _, rfl, ?_⟩
    exact eq_same ⟨_, rfl⟩ rfl (Nat.le_of_ble_eq_true rfl) rfl
end

-- the part N12
theorem law_run {cx : Cx} (W : LawOK cx) {a : Addr} (hns : nsIn cx.K mainGlobals "law" = some (some (.ref a))) {oc : Value} {od : Option Addr} {osl : Array (Option Value)} {name qual : Str} {params : Arguments} {body : List Stmt} {scope : Scope} {dV kV doc pm cdv ct : Value} {an : Option Addr}
    (ho : cx.K.lookup a = some ⟨oc, od, .func (fnOf name qual params body scope dV kV doc pm an cdv ct), osl⟩) (hk : scope.kind = .function) (hgen : scope.isGenerator = false) (hco : scope.isCoroutine = false) {A : Around} {nm : Str} {L : Addr} (hL : L = cx.H₀.objs.size) {fa : Addr} {cd : Value}
    (hA : A.frames = some [envOf nm scope L fa cd]) (hh : A.handled = none) (hdep : A.depth + 200 < 1000) (hun : A.units + 300 < 9900) {h₁ : Heap} {m : Str → Option Value}
    (F : Fr cx.H₀ L h₁ m) {xs : List PyData} (hxs : intsOk xs) {v : Value} {as : List Addr} (r : Reads cx.H₀ v (.list xs) as) (hm : m "script" = some v) {s : Shared} (hs : s.heap = h₁) {Q : Flow → Shared → Prop} {E : Value → Shared → Prop}
    (hQ : ∀ s' m', Fr cx.H₀ L s'.heap m' → s'.os = s.os → s'.gens = s.gens → Q (.ret (.bool true)) s') : wpAny (model cx.prog cx.w) A (execs body (envOf nm scope L fa cd)) Q E s := by
  obtain ⟨a', oc', od', osl', name', qual', params', body', scope', dV', kV', doc', pm', cdv', ct', an', T, h1, h2, hT, hC⟩ := W
  rw [hns] at h1
  obtain rfl : a = a' := by
    have := Option.some.inj (Option.some.inj h1)
    injection this
  rw [ho] at h2
  have h3 := Option.some.inj h2
  have hb : body = body' ∧ scope = scope' := by
    injection h3 with _ _ h4 _
    injection h4 with h5
    injection h5 with _ _ _ h6 h7
    injection h6 with h8
    exact ⟨h8, h7⟩
  obtain ⟨rfl, rfl⟩ := hb
  subst hs
  let f : Fx := ⟨nm, scope, L, fa, cd, [], A⟩
  have h0 : cx.H₀.get? L = none := by rw [hL]; exact Heap.get?_none_of_le (Nat.le_refl _)
  have ok : FxOk cx f [L] 7 := ⟨hA, hh, hk, hgen, hco, .head _, fun b hb => (by cases hb), fun hb => (by cases hb), fun b hb => (by rw [List.mem_singleton.mp hb]; exact h0), by show A.depth + 7 + 100 < 1000; omega, by show A.units + 8 * 7 + 200 < 9900; omega⟩
  have st : St cx f [L] s.heap m (bindS ["script"] [.d (.list xs)] fun _ => none) := by
    refine ⟨F, fun x d e => ?_, trivial, fun b hb => ?_⟩
    · simp only [bindS] at e
      by_cases q : x = "script"
      · subst q
        rw [upd_same] at e
        obtain rfl := Option.some.inj e
        refine ⟨v, hm, as, Reads.keeps (fun b o eb => hideAll_get _ (F.keep b o eb) fun hb => ?_) r⟩
        rw [List.mem_singleton.mp hb, h0] at eb
        cases eb
      · rw [upd_ne q] at e; cases e
    · rw [List.mem_singleton.mp hb]
      obtain ⟨o, _, _, e, _⟩ := F.ns
      exact ⟨o, e⟩
  refine wpAny_mono (hT f [L] m _ s _ rfl ok st (hC xs hxs)) (fun fl s' ⟨p, z, q⟩ => ?_) fun e s' x => x.1.elim
  cases fl with
  | next =>
    obtain ⟨m', σ, st', q⟩ := q
    have : NN = B true := q
    cases this
  | ret u =>
    obtain ⟨d, m', σ, st', rr, q⟩ := q
    have q : d = B true := q
    subst q
    rw [bool_rep rr]
    exact hQ s' m' st'.fr z.os z.gens
  | brk => obtain ⟨_, _, _, q⟩ := q; exact q.elim
  | cont => obtain ⟨_, _, _, q⟩ := q; exact q.elim

-- the part Jn
/-- the world of the law -/
noncomputable def cxOf (w : World) (s₀ : Shared) (mg mb : Str → Option Value) (h : Heap) (loose : List Str) (KX : (hd.heap_39 w.params).In h) (T : Top hd.view_39 loose (ExcName.means s₀.heap) mg mb h) : Cx where
  prog := PySem.Challenge.rw_no0265_01.row.prog
  w := w
  K := hd.heap_39 w.params
  H₀ := h
  p := hd.view_39
  loose := loose
  mean := ExcName.means s₀.heap
  mg := mg
  mb := mb
  RF := 44
  LCa := 404
  inK := KX
  top := T
  imp := by first | rfl | kernel_rfl
  tree := by first | rfl | kernel_rfl
  smod := by
    have e : ∃ o, (hd.heap_39 w.params).lookup 404 = some o := ⟨_, by k_is⟩
    obtain ⟨o, e⟩ := e
    have := Heap.lt_size (KX _ _ e)
    exact Nat.lt_trans (by decide) this
  gd := fun x d e => by
    unfold GD at e
    split at e
    · rename_i q; subst q; obtain rfl := Option.some.inj e; exact ⟨_, by k_is, rep_int _ _⟩
    · split at e
      · rename_i q; subst q; obtain rfl := Option.some.inj e; exact ⟨_, by k_is, rep_int _ _⟩
      · split at e
        · rename_i q; subst q; obtain rfl := Option.some.inj e; exact ⟨_, by k_is, rep_int _ _⟩
        · split at e
          · rename_i q; subst q; obtain rfl := Option.some.inj e; exact ⟨_, by k_is, rep_int _ _⟩
          · split at e
            · rename_i q; subst q; obtain rfl := Option.some.inj e; exact ⟨_, by k_is, rep_int _ _⟩
            · split at e
              · rename_i q; subst q; obtain rfl := Option.some.inj e; exact ⟨_, by k_is, rep_int _ _⟩
              · split at e
                · rename_i q; subst q; obtain rfl := Option.some.inj e
                  have h1 : ∃ v, nsIn (hd.heap_39 w.params) mainGlobals "NOUGHT" = some (some v) ∧ ∃ a c0 d0 n0 sl0 t1 t2, v = .ref a ∧ (hd.heap_39 w.params).lookup a = some ⟨c0, d0, .seq #[.int 0 t1, .int 0 t2] n0, sl0⟩ ∧ c0 = .type "tuple" := by
                    refine ⟨_, by k_is, _, _, _, _, _, _, _, rfl, by k_is, rfl⟩
                  obtain ⟨v, h1, a, c0, d0, n0, sl0, t1, t2, rfl, h2, rfl⟩ := h1
                  exact ⟨_, h1, _, .tuple (KX _ _ h2) rfl rfl (.cons (.int _ _) (.cons (.int _ _) .nil))⟩
                · cases e
local macro_rules | `(tactic| k_qdec) => `(tactic| decide +kernel)
theorem law_holds : PySem.Challenge.rw_no0265_01.Holds := by
  refine holds_law said fun _ => ?_
  refine holds_open (q := hd.view_39) (loose := looseNames) (Xt := fun s => xlAt hd.view_39 [] s && recOk (RowW.records PySem.Challenge.rw_no0265_01.row.toRowW) s) (XP := XL hd.view_39 []) (Yf := hk.obs) (Ya := hk.val) (YP := hk.says) (N := 5764) left9 hk.of hk.keeps (fun s e => xl_of s (Bool.and_eq_true_iff.mp e).1) XL.keeps (by rfl) (by rfl) (by rfl) (fun s e => recFacts_of (Bool.and_eq_true_iff.mp e).2) (by rfl) (by assumption) (by decide +kernel) ⟨rfl, rfl, rfl, rfl, rfl, by decide +kernel⟩ ?hw ?hc
  case hw => w_witness2
  case hc =>
    rename_i z; clear z
    w_strict k_go0
    rename_i w s₀ s₁ mg mb G Y fa o pm doc kV ho hg KX X V GL T B TE TW _ _ M cda _ hcd ns hs hlay0 hL0 _ hl2 _ _ l vs _ hL ra _ r0 hI _ hlen _ K0 hD h₁ F N0
    have g : Good (cxOf w s₀ mg mb s₁.heap _ KX T) := ⟨rfl, rfl, rfl⟩
    refine' law_run (cx := cxOf w s₀ mg mb s₁.heap _ KX T) (ok_law g) ?hns ?ho ?hk ?hgen ?hco ?hL ?hA ?hh ?hdep ?hun ?F ?hxs ?r ?hm ?hs ?hQ
    case hns => show nsIn (hd.heap_39 w.params) _ _ = _; k_is
    case ho => show (hd.heap_39 w.params).lookup _ = _; k_is
    case hk => rfl
    case hgen => rfl
    case hco => rfl
    case hL => rfl
    case hA => rfl
    case hh => rfl
    case hdep => exact Nat.le_of_ble_eq_true rfl
    case hun => exact Nat.le_of_ble_eq_true rfl
    case F => exact F
    case hxs => exact ⟨⟨ns, rfl⟩, by rw [List.length_map]; omega⟩
    case r => exact r0
    case hm => rfl
    case hs => rfl
    case hQ =>
      intro s' m' F' ho' hg'
      refine goodW_bool F' (hg'.trans hg) ?_ ?_ ho'
      · refine raisesW_false ?_
        wrow_none_raised
      · wrow_post

end Mine

theorem PySem.Challenge.cw_no0265_01_holds : PySem.Challenge.rw_no0265_01.Holds := by
  exact Mine.law_holds
