import PyProof.Rows.All
import Wide.All
import OpenK.AllK
import Wide.FinOn
import Lean
import PySem.Challenge.RW_nu0347_01
open PySem PySem.W PyProof.Rows
set_option Elab.async false
set_option maxRecDepth 100000
set_option maxHeartbeats 80000000
namespace Mine
theorem ofS (s : String) : Str.ofString s = ⟨⟨s.toList.map Char.toNat⟩⟩ := by
  rw [Str.ofString_eq_byList]
  rfl
noncomputable def scopeQ : Scope := by
  refine' (?k : (S P : Scope) → (PySem.Challenge.pw_nu0347_01.main.scope = S) → (S = P) → Scope) { kind := _, names := _, isGenerator := _, isCoroutine := _, more := _ } _ rfl ?h
  case h => simp only [ofS, String.reduceToList, List.map_cons, List.map_nil, Char.reduceToNat]; rfl
  case k => exact fun _ P _ _ => P

noncomputable def bodyQ : List Stmt := by
  refine' (?k : (S P : List Stmt) → (PySem.Challenge.pw_nu0347_01.main.body.drop 0 = S) → (S = P) → List Stmt) (@List.cons _ _ _) _ rfl ?h
  case h => simp only [ofS, String.reduceToList, List.map_cons, List.map_nil, Char.reduceToNat]; rfl
  case k => exact fun _ P _ _ => P
noncomputable def progQ : Program := by
  refine' (?k : (f : Str) → (g : Given) → (PySem.Challenge.pw_nu0347_01 = { PySem.Challenge.pw_nu0347_01 with main := { PySem.Challenge.pw_nu0347_01.main with file := f }, given := g }) → Program) _ { argv := _, stdin := _, environ := some _, cwd := _, tree := _, leftOut := _, nothingAt := _ } rfl
  case k => exact fun f g _ => { main := { body := bodyQ, scope := scopeQ, futureAnnotations := false, file := f, more := [] }, modules := [], parses := [], absent := [], harvested := [], given := g }
theorem prog_is : PySem.Challenge.rw_nu0347_01.row.prog = progQ := by kernel_rfl
noncomputable def lawS : OpenLaw := by
  refine' (?f : (n : Str) → (a : List Str) → (f : Nat) → (m : Option Nat) → (b : Option Nat) → (w : Bool) → (PySem.Challenge.rw_nu0347_01 = { prog := PySem.Challenge.pw_nu0347_01, name := n, about := a, foot := f, most := m, bound := b, writes := w }) → OpenLaw) _ _ _ _ _ _ rfl
  case f => exact fun n a f m b w _ => { prog := progQ, name := n, about := a, foot := f, most := m, bound := b, writes := w }
theorem law_is : PySem.Challenge.rw_nu0347_01 = lawS := by kernel_rfl
theorem law_said : lawS.wellSaid = true := by
  delta OpenLaw.wellSaid OpenRow.wellSaid OpenRow.partSaid looksOpen
  repeat' (with_reducible refine look_both ?_ ?_)
  all_goals (first | k_qdec | decide +kernel)
theorem said_is : PySem.Challenge.rw_nu0347_01.wellSaid = true := (congrArg OpenLaw.wellSaid law_is).trans law_said
theorem step_by {L T H : Prop} (_ : L) (_ : T) (f : H) : H := f
noncomputable def hd : (T : Prop) ×' (L : Prop) ×' (T → L → PySem.Challenge.rw_nu0347_01.Holds) := by
  refine' ⟨_, _, ?g⟩
  case g =>
  intro walk left
  refine' step_by ?hl ?hc ?main
  case main =>
    w_on
    refine holds_law said_is fun said => ?_
    k_head
    case hw => w_witness2
  case hl => exact left
  case hc => exact walk
noncomputable def kept : List Addr := [2, 3, 15, 17, 18, 20, 21, 22, 24, 25, 27, 28, 29, 31, 32, 34, 35, 36, 38, 39, 41, 42, 43, 45, 46, 48, 49, 50, 52, 53, 55, 56, 64, 66, 67, 69, 70, 71, 72, 73, 74, 75, 78, 80, 81, 83, 84, 92, 94, 95, 97, 98, 99, 101, 102, 104, 105, 106, 108, 109, 111, 112, 113, 115, 116, 118, 119, 120, 122, 123, 125, 126, 127, 129, 130, 132, 133, 134, 136, 137, 139, 140, 141, 143, 144, 146, 147, 148, 150, 151, 153, 154, 155, 156, 157, 158, 159, 162, 169, 170, 171, 172, 175, 182, 184, 185, 187, 188, 189, 190, 191, 201, 203, 204, 206, 207, 208, 210, 211, 213, 214, 215, 217, 218, 220, 221, 222, 224, 225, 227, 228, 229, 231, 232, 234, 235, 236, 238, 239, 241, 242, 243, 245, 246, 248, 249, 250, 252, 253, 255, 256, 257, 258, 259, 260, 261, 271, 273, 274, 276, 277, 278, 280, 281, 283, 284, 285, 287, 288, 290, 291, 292, 294, 295, 297, 298, 299, 301, 302, 304, 305, 306, 308, 309, 311, 312, 313, 314, 315, 316, 317, 320, 322, 323, 325, 326, 334, 335, 337, 338, 340, 341, 342, 344, 345, 347, 348, 349, 351, 352, 354, 355, 356, 358, 359, 361, 362, 363, 365, 366, 368, 369, 370, 372, 373, 375, 376, 377, 379, 380, 382, 383, 384, 386, 387, 389, 390, 391, 393, 394, 396, 397, 398, 400, 401, 403, 404, 405, 406, 407, 408, 409, 419, 421, 422, 424, 425, 426, 427, 428, 429, 430, 433, 435, 436, 438, 439, 440, 442, 443, 445, 446, 447, 449, 450, 452, 453, 454, 456, 457, 459, 460, 461, 463, 464, 466, 467, 468, 470, 471, 473, 474]
noncomputable def viewP : Program := view progQ [0, 2, 3, 4, 6, 7, 8, 9, 10, 12, 14, 15, 16, 18, 19, 21, 23, 24, 26, 27, 28, 29, 30, 32, 34, 35, 36, 37, 38, 39]
theorem view_is : hd.view_1 = viewP := by kernel_rfl
-- the objects of heap_1, the keys' hash and the kinds' names left open (so no twin of it is wanted)
abbrev FragS := (Str → Int) → String → String → String → String → String → String → String → String → String → String → String → String → String → String → String → Frag
noncomputable def fragsF : FragS := by
  refine' (?k : (a : Params → Addr × Obj) → (l : Params → Frag) → (P : FragS) → (∀ p, (hd.heap_1 p).drop 0 = a p :: l p) → (∀ p, a p :: l p = P (PyData.keyHash p) "dict" "__main__.__loader__#opaque" "tuple" "code" "function" "type" "object" "object.__new__" "getset_descriptor" "function.__dict__" "function.__dict__#set" "ExceptionGroup.__weakref__" "Exception" "BaseException" "Exception.__new__") → FragS) _ _ _ (fun p => rfl) ?h
  case h => intro p; simp only [ofS, String.reduceToList, List.map_cons, List.map_nil, Char.reduceToNat]; generalize PyData.keyHash p = kh; generalize "dict" = s0; generalize "__main__.__loader__#opaque" = s1; generalize "tuple" = s2; generalize "code" = s3; generalize "function" = s4; generalize "type" = s5; generalize "object" = s6; generalize "object.__new__" = s7; generalize "getset_descriptor" = s8; generalize "function.__dict__" = s9; generalize "function.__dict__#set" = s10; generalize "ExceptionGroup.__weakref__" = s11; generalize "Exception" = s12; generalize "BaseException" = s13; generalize "Exception.__new__" = s14; rfl
  case k => exact fun _ _ P _ _ => P
noncomputable def frags (P : Params) : Frag := fragsF (PyData.keyHash P) "dict" "__main__.__loader__#opaque" "tuple" "code" "function" "type" "object" "object.__new__" "getset_descriptor" "function.__dict__" "function.__dict__#set" "ExceptionGroup.__weakref__" "Exception" "BaseException" "Exception.__new__"
theorem heap_frags : hd.heap_1 = frags := by kernel_rfl
abbrev eF : Obj := { cls := Value.none, data := Data.fields #[] }
abbrev eT : Obj := { cls := Value.type "tuple", data := Data.seq #[] }
abbrev eP : Obj := { cls := Value.type "builtin_function_or_method", data := Data.fields #[Value.builtin "type.__prepare__", Value.type "type"] }
-- the objects of the run's end that heap_1 does not write out: those that classes and code objects leave behind
noncomputable def othersF : (Str → Int) → Frag := by
  refine' (?k : (S P : (Str → Int) → Frag) → (∀ kh, S kh = P kh) → (Str → Int) → Frag) (fun kh => [(11, eT),
    (12, { cls := Value.none, data := Data.fields #[Value.int 1 0, Value.int 0 0, Value.ref 20, Value.int 7 0, Value.int 0 0, Value.ref 27, Value.int 14 0, Value.int 0 0, Value.ref 34, Value.int 30 0, Value.int 0 0, Value.ref 41, Value.int 36 0, Value.int 0 0, Value.ref 48, Value.int 52 0, Value.int 0 0, Value.ref 55, Value.int 60 0, Value.int 0 0, Value.ref 62, Value.int 71 0, Value.int 0 0, Value.ref 83, Value.int 79 0, Value.int 0 0, Value.ref 90, Value.int 116 0, Value.int 0 0, Value.ref 167, Value.int 118 0, Value.int 0 0, Value.ref 180, Value.int 125 0, Value.int 0 0, Value.ref 199, Value.int 160 0, Value.int 0 0, Value.ref 269, Value.int 186 0, Value.int 0 0, Value.ref 325, Value.int 188 0, Value.int 0 0, Value.ref 332, Value.int 235 0, Value.int 0 0, Value.ref 417, Value.int 252 0, Value.int 0 0, Value.ref 438, Value.int 265 0, Value.int 0 0, Value.ref 445, Value.int 267 0, Value.int 0 0, Value.ref 452, Value.int 277 0, Value.int 0 0, Value.ref 459, Value.int 289 0, Value.int 0 0, Value.ref 466, Value.int 295 0, Value.int 0 0, Value.ref 473] }),
    (13, { cls := Value.type "code", data := Data.fields #[Value.str (Str.ofString "<module>") 182, Value.str (Str.ofString "<module>") 183, Value.str (Str.ofString "/claim/cut.py") 184, Value.int 1 0, Value.int 0 0, Value.int 0 0, Value.int 0 0, Value.int 0 0, Value.ref 11, Value.bool false, Value.int 181 0, Value.ref 12, Value.none, Value.none, Value.none, Value.none, Value.int 185 0, Value.int 1 0, Value.str (Str.ofString "/claim/cut.py") 186] }),
    (14, { cls := Value.type "frame", slots := #[some (Value.ref 13), some (Value.ref 3), some (Value.ref 3), none, some (Value.str (Str.ofString "__main__") 164), none, some (Value.ref 0)] }),
    (16, eF),
    (23, eF),
    (30, eF),
    (37, eF),
    (44, eF),
    (51, eF),
    (57, eT),
    (58, eP),
    (59, { cls := Value.type "dict", data := Data.dict #[{ hash := kh (Str.ofString "__module__"), key := Value.str (Str.ofString "__module__") 268, val := Value.str (Str.ofString "moduleyard.loader") 259 }, { hash := kh (Str.ofString "__qualname__"), key := Value.str (Str.ofString "__qualname__") 270, val := Value.str (Str.ofString "Loaded") 269 }, { hash := kh (Str.ofString "__firstlineno__"), key := Value.str (Str.ofString "__firstlineno__") 272, val := Value.int 60 271 }, { hash := kh (Str.ofString "__init__"), key := Value.str (Str.ofString "__init__") 284, val := Value.ref 70 }, { hash := kh (Str.ofString "__static_attributes__"), key := Value.str (Str.ofString "__static_attributes__") 291, val := Value.ref 71 }] 5 }),
    (60, eT),
    (61, { cls := Value.none, data := Data.fields #[Value.int 62 0, Value.int 4 0, Value.ref 69] }),
    (62, { cls := Value.type "code", data := Data.fields #[Value.str (Str.ofString "Loaded") 263, Value.str (Str.ofString "Loaded") 264, Value.str (Str.ofString "/claim/cut.py") 265, Value.int 60 0, Value.int 0 0, Value.int 0 0, Value.int 0 0, Value.int 0 0, Value.ref 60, Value.bool false, Value.int 181 0, Value.ref 61, Value.none, Value.none, Value.none, Value.none, Value.int 266 0, Value.int 60 0, Value.str (Str.ofString "/claim/cut.py") 267] }),
    (63, { cls := Value.type "frame", slots := #[some (Value.ref 62), some (Value.ref 3), some (Value.ref 59), none, some (Value.str (Str.ofString "moduleyard.loader") 259), none, some (Value.ref 0)] }),
    (65, eF),
    (76, { cls := Value.type "super", data := Data.fields #[Value.ref 73, Value.ref 73, Value.ref 73] }),
    (77, { cls := Value.type "builtin_function_or_method", data := Data.fields #[Value.builtin "object.__init_subclass__", Value.ref 73] }),
    (79, eF),
    (85, eT),
    (86, eP),
    (87, { cls := Value.type "dict", data := Data.dict #[{ hash := kh (Str.ofString "__module__"), key := Value.str (Str.ofString "__module__") 317, val := Value.str (Str.ofString "moduleyard.heap") 299 }, { hash := kh (Str.ofString "__qualname__"), key := Value.str (Str.ofString "__qualname__") 319, val := Value.str (Str.ofString "Heap") 318 }, { hash := kh (Str.ofString "__firstlineno__"), key := Value.str (Str.ofString "__firstlineno__") 321, val := Value.int 79 320 }, { hash := kh (Str.ofString "__init__"), key := Value.str (Str.ofString "__init__") 331, val := Value.ref 98 }, { hash := kh (Str.ofString "put_free"), key := Value.str (Str.ofString "put_free") 341, val := Value.ref 105 }, { hash := kh (Str.ofString "is_free"), key := Value.str (Str.ofString "is_free") 349, val := Value.ref 112 }, { hash := kh (Str.ofString "descriptor"), key := Value.str (Str.ofString "descriptor") 357, val := Value.ref 119 }, { hash := kh (Str.ofString "size_of"), key := Value.str (Str.ofString "size_of") 365, val := Value.ref 126 }, { hash := kh (Str.ofString "take_free"), key := Value.str (Str.ofString "take_free") 373, val := Value.ref 133 }, { hash := kh (Str.ofString "alloc"), key := Value.str (Str.ofString "alloc") 381, val := Value.ref 140 }, { hash := kh (Str.ofString "blocks"), key := Value.str (Str.ofString "blocks") 388, val := Value.ref 147 }, { hash := kh (Str.ofString "block_of"), key := Value.str (Str.ofString "block_of") 396, val := Value.ref 154 }, { hash := kh (Str.ofString "__static_attributes__"), key := Value.str (Str.ofString "__static_attributes__") 401, val := Value.ref 155 }] 13 }),
    (88, eT),
    (89, { cls := Value.none, data := Data.fields #[Value.int 81 0, Value.int 4 0, Value.ref 97, Value.int 89 0, Value.int 4 0, Value.ref 104, Value.int 95 0, Value.int 4 0, Value.ref 111, Value.int 98 0, Value.int 4 0, Value.ref 118, Value.int 101 0, Value.int 4 0, Value.ref 125, Value.int 104 0, Value.int 4 0, Value.ref 132, Value.int 107 0, Value.int 4 0, Value.ref 139, Value.int 110 0, Value.int 4 0, Value.ref 146, Value.int 113 0, Value.int 4 0, Value.ref 153] }),
    (90, { cls := Value.type "code", data := Data.fields #[Value.str (Str.ofString "Heap") 312, Value.str (Str.ofString "Heap") 313, Value.str (Str.ofString "/claim/cut.py") 314, Value.int 79 0, Value.int 0 0, Value.int 0 0, Value.int 0 0, Value.int 0 0, Value.ref 88, Value.bool false, Value.int 181 0, Value.ref 89, Value.none, Value.none, Value.none, Value.none, Value.int 315 0, Value.int 79 0, Value.str (Str.ofString "/claim/cut.py") 316] }),
    (91, { cls := Value.type "frame", slots := #[some (Value.ref 90), some (Value.ref 3), some (Value.ref 87), none, some (Value.str (Str.ofString "moduleyard.heap") 299), none, some (Value.ref 0)] }),
    (93, eF),
    (100, eF),
    (107, eF),
    (114, eF),
    (121, eF),
    (128, eF),
    (135, eF),
    (142, eF),
    (149, eF),
    (160, { cls := Value.type "super", data := Data.fields #[Value.ref 157, Value.ref 157, Value.ref 157] }),
    (161, { cls := Value.type "builtin_function_or_method", data := Data.fields #[Value.builtin "object.__init_subclass__", Value.ref 157] }),
    (163, eP),
    (164, { cls := Value.type "dict", data := Data.dict #[{ hash := kh (Str.ofString "__module__"), key := Value.str (Str.ofString "__module__") 418, val := Value.str (Str.ofString "moduleyard.errors") 409 }, { hash := kh (Str.ofString "__qualname__"), key := Value.str (Str.ofString "__qualname__") 420, val := Value.str (Str.ofString "YardError") 419 }, { hash := kh (Str.ofString "__firstlineno__"), key := Value.str (Str.ofString "__firstlineno__") 422, val := Value.int 116 421 }, { hash := kh (Str.ofString "__static_attributes__"), key := Value.str (Str.ofString "__static_attributes__") 423, val := Value.ref 169 }] 4 }),
    (165, eT),
    (166, eF),
    (167, { cls := Value.type "code", data := Data.fields #[Value.str (Str.ofString "YardError") 413, Value.str (Str.ofString "YardError") 414, Value.str (Str.ofString "/claim/cut.py") 415, Value.int 116 0, Value.int 0 0, Value.int 0 0, Value.int 0 0, Value.int 0 0, Value.ref 165, Value.bool false, Value.int 181 0, Value.ref 166, Value.none, Value.none, Value.none, Value.none, Value.int 416 0, Value.int 116 0, Value.str (Str.ofString "/claim/cut.py") 417] }),
    (168, { cls := Value.type "frame", slots := #[some (Value.ref 167), some (Value.ref 3), some (Value.ref 164), none, some (Value.str (Str.ofString "moduleyard.errors") 409), none, some (Value.ref 0)] }),
    (173, { cls := Value.type "super", data := Data.fields #[Value.ref 171, Value.ref 171, Value.ref 171] }),
    (174, { cls := Value.type "builtin_function_or_method", data := Data.fields #[Value.builtin "object.__init_subclass__", Value.ref 171] }),
    (176, eP),
    (177, { cls := Value.type "dict", data := Data.dict #[{ hash := kh (Str.ofString "__module__"), key := Value.str (Str.ofString "__module__") 438, val := Value.str (Str.ofString "moduleyard.errors") 409 }, { hash := kh (Str.ofString "__qualname__"), key := Value.str (Str.ofString "__qualname__") 440, val := Value.str (Str.ofString "TrapError") 439 }, { hash := kh (Str.ofString "__firstlineno__"), key := Value.str (Str.ofString "__firstlineno__") 442, val := Value.int 118 441 }, { hash := kh (Str.ofString "__init__"), key := Value.str (Str.ofString "__init__") 452, val := Value.ref 188 }, { hash := kh (Str.ofString "__static_attributes__"), key := Value.str (Str.ofString "__static_attributes__") 456, val := Value.ref 189 }] 5 }),
    (178, eT),
    (179, { cls := Value.none, data := Data.fields #[Value.int 120 0, Value.int 4 0, Value.ref 187] }),
    (180, { cls := Value.type "code", data := Data.fields #[Value.str (Str.ofString "TrapError") 433, Value.str (Str.ofString "TrapError") 434, Value.str (Str.ofString "/claim/cut.py") 435, Value.int 118 0, Value.int 0 0, Value.int 0 0, Value.int 0 0, Value.int 0 0, Value.ref 178, Value.bool false, Value.int 181 0, Value.ref 179, Value.none, Value.none, Value.none, Value.none, Value.int 436 0, Value.int 118 0, Value.str (Str.ofString "/claim/cut.py") 437] }),
    (181, { cls := Value.type "frame", slots := #[some (Value.ref 180), some (Value.ref 3), some (Value.ref 177), none, some (Value.str (Str.ofString "moduleyard.errors") 409), none, some (Value.ref 0)] }),
    (183, eF),
    (192, { cls := Value.type "super", data := Data.fields #[Value.ref 191, Value.ref 191, Value.ref 191] }),
    (193, { cls := Value.type "builtin_function_or_method", data := Data.fields #[Value.builtin "object.__init_subclass__", Value.ref 191] }),
    (194, eT),
    (195, eP),
    (196, { cls := Value.type "dict", data := Data.dict #[{ hash := kh (Str.ofString "__module__"), key := Value.str (Str.ofString "__module__") 469, val := Value.str (Str.ofString "moduleyard.cpu") 460 }, { hash := kh (Str.ofString "__qualname__"), key := Value.str (Str.ofString "__qualname__") 471, val := Value.str (Str.ofString "Cpu") 470 }, { hash := kh (Str.ofString "__firstlineno__"), key := Value.str (Str.ofString "__firstlineno__") 473, val := Value.int 125 472 }, { hash := kh (Str.ofString "__init__"), key := Value.str (Str.ofString "__init__") 481, val := Value.ref 207 }, { hash := kh (Str.ofString "step"), key := Value.str (Str.ofString "step") 488, val := Value.ref 214 }, { hash := kh (Str.ofString "transfer"), key := Value.str (Str.ofString "transfer") 498, val := Value.ref 221 }, { hash := kh (Str.ofString "flags"), key := Value.str (Str.ofString "flags") 505, val := Value.ref 228 }, { hash := kh (Str.ofString "branch"), key := Value.str (Str.ofString "branch") 514, val := Value.ref 235 }, { hash := kh (Str.ofString "set_result"), key := Value.str (Str.ofString "set_result") 523, val := Value.ref 242 }, { hash := kh (Str.ofString "calculate"), key := Value.str (Str.ofString "calculate") 532, val := Value.ref 249 }, { hash := kh (Str.ofString "run"), key := Value.str (Str.ofString "run") 540, val := Value.ref 256 }, { hash := kh (Str.ofString "__static_attributes__"), key := Value.str (Str.ofString "__static_attributes__") 550, val := Value.ref 257 }] 12 }),
    (197, eT),
    (198, { cls := Value.none, data := Data.fields #[Value.int 127 0, Value.int 4 0, Value.ref 206, Value.int 138 0, Value.int 4 0, Value.ref 213, Value.int 141 0, Value.int 4 0, Value.ref 220, Value.int 144 0, Value.int 4 0, Value.ref 227, Value.int 147 0, Value.int 4 0, Value.ref 234, Value.int 150 0, Value.int 4 0, Value.ref 241, Value.int 153 0, Value.int 4 0, Value.ref 248, Value.int 156 0, Value.int 4 0, Value.ref 255] }),
    (199, { cls := Value.type "code", data := Data.fields #[Value.str (Str.ofString "Cpu") 464, Value.str (Str.ofString "Cpu") 465, Value.str (Str.ofString "/claim/cut.py") 466, Value.int 125 0, Value.int 0 0, Value.int 0 0, Value.int 0 0, Value.int 0 0, Value.ref 197, Value.bool false, Value.int 181 0, Value.ref 198, Value.none, Value.none, Value.none, Value.none, Value.int 467 0, Value.int 125 0, Value.str (Str.ofString "/claim/cut.py") 468] }),
    (200, { cls := Value.type "frame", slots := #[some (Value.ref 199), some (Value.ref 3), some (Value.ref 196), none, some (Value.str (Str.ofString "moduleyard.cpu") 460), none, some (Value.ref 0)] }),
    (202, eF),
    (209, eF),
    (216, eF),
    (223, eF),
    (230, eF),
    (237, eF),
    (244, eF),
    (251, eF),
    (262, { cls := Value.type "super", data := Data.fields #[Value.ref 259, Value.ref 259, Value.ref 259] }),
    (263, { cls := Value.type "builtin_function_or_method", data := Data.fields #[Value.builtin "object.__init_subclass__", Value.ref 259] }),
    (264, eT),
    (265, eP),
    (266, { cls := Value.type "dict", data := Data.dict #[{ hash := kh (Str.ofString "__module__"), key := Value.str (Str.ofString "__module__") 569, val := Value.str (Str.ofString "moduleyard.memory") 558 }, { hash := kh (Str.ofString "__qualname__"), key := Value.str (Str.ofString "__qualname__") 571, val := Value.str (Str.ofString "Memory") 570 }, { hash := kh (Str.ofString "__firstlineno__"), key := Value.str (Str.ofString "__firstlineno__") 573, val := Value.int 160 572 }, { hash := kh (Str.ofString "__init__"), key := Value.str (Str.ofString "__init__") 581, val := Value.ref 277 }, { hash := kh (Str.ofString "place"), key := Value.str (Str.ofString "place") 589, val := Value.ref 284 }, { hash := kh (Str.ofString "word"), key := Value.str (Str.ofString "word") 597, val := Value.ref 291 }, { hash := kh (Str.ofString "put_word"), key := Value.str (Str.ofString "put_word") 606, val := Value.ref 298 }, { hash := kh (Str.ofString "byte"), key := Value.str (Str.ofString "byte") 614, val := Value.ref 305 }, { hash := kh (Str.ofString "put_byte"), key := Value.str (Str.ofString "put_byte") 623, val := Value.ref 312 }, { hash := kh (Str.ofString "__static_attributes__"), key := Value.str (Str.ofString "__static_attributes__") 626, val := Value.ref 313 }] 10 }),
    (267, eT),
    (268, { cls := Value.none, data := Data.fields #[Value.int 162 0, Value.int 4 0, Value.ref 276, Value.int 166 0, Value.int 4 0, Value.ref 283, Value.int 171 0, Value.int 4 0, Value.ref 290, Value.int 174 0, Value.int 4 0, Value.ref 297, Value.int 177 0, Value.int 4 0, Value.ref 304, Value.int 180 0, Value.int 4 0, Value.ref 311] }),
    (269, { cls := Value.type "code", data := Data.fields #[Value.str (Str.ofString "Memory") 564, Value.str (Str.ofString "Memory") 565, Value.str (Str.ofString "/claim/cut.py") 566, Value.int 160 0, Value.int 0 0, Value.int 0 0, Value.int 0 0, Value.int 0 0, Value.ref 267, Value.bool false, Value.int 181 0, Value.ref 268, Value.none, Value.none, Value.none, Value.none, Value.int 567 0, Value.int 160 0, Value.str (Str.ofString "/claim/cut.py") 568] }),
    (270, { cls := Value.type "frame", slots := #[some (Value.ref 269), some (Value.ref 3), some (Value.ref 266), none, some (Value.str (Str.ofString "moduleyard.memory") 558), none, some (Value.ref 0)] }),
    (272, eF),
    (279, eF),
    (286, eF),
    (293, eF),
    (300, eF),
    (307, eF),
    (318, { cls := Value.type "super", data := Data.fields #[Value.ref 315, Value.ref 315, Value.ref 315] }),
    (319, { cls := Value.type "builtin_function_or_method", data := Data.fields #[Value.builtin "object.__init_subclass__", Value.ref 315] }),
    (321, eF),
    (327, eT),
    (328, eP),
    (329, { cls := Value.type "dict", data := Data.dict #[{ hash := kh (Str.ofString "__module__"), key := Value.str (Str.ofString "__module__") 656, val := Value.str (Str.ofString "moduleyard.machine") 634 }, { hash := kh (Str.ofString "__qualname__"), key := Value.str (Str.ofString "__qualname__") 658, val := Value.str (Str.ofString "Machine") 657 }, { hash := kh (Str.ofString "__firstlineno__"), key := Value.str (Str.ofString "__firstlineno__") 660, val := Value.int 188 659 }, { hash := kh (Str.ofString "__init__"), key := Value.str (Str.ofString "__init__") 676, val := Value.ref 341 }, { hash := kh (Str.ofString "add_rows"), key := Value.str (Str.ofString "add_rows") 686, val := Value.ref 348 }, { hash := kh (Str.ofString "add_data"), key := Value.str (Str.ofString "add_data") 694, val := Value.ref 355 }, { hash := kh (Str.ofString "state"), key := Value.str (Str.ofString "state") 701, val := Value.ref 362 }, { hash := kh (Str.ofString "back_to"), key := Value.str (Str.ofString "back_to") 709, val := Value.ref 369 }, { hash := kh (Str.ofString "most_frames"), key := Value.str (Str.ofString "most_frames") 716, val := Value.ref 376 }, { hash := kh (Str.ofString "prepare"), key := Value.str (Str.ofString "prepare") 724, val := Value.ref 383 }, { hash := kh (Str.ofString "call"), key := Value.str (Str.ofString "call") 732, val := Value.ref 390 }, { hash := kh (Str.ofString "running_module"), key := Value.str (Str.ofString "running_module") 739, val := Value.ref 397 }, { hash := kh (Str.ofString "kernel"), key := Value.str (Str.ofString "kernel") 747, val := Value.ref 404 }, { hash := kh (Str.ofString "__static_attributes__"), key := Value.str (Str.ofString "__static_attributes__") 759, val := Value.ref 405 }] 14 }),
    (330, eT),
    (331, { cls := Value.none, data := Data.fields #[Value.int 190 0, Value.int 4 0, Value.ref 340, Value.int 205 0, Value.int 4 0, Value.ref 347, Value.int 211 0, Value.int 4 0, Value.ref 354, Value.int 214 0, Value.int 4 0, Value.ref 361, Value.int 217 0, Value.int 4 0, Value.ref 368, Value.int 220 0, Value.int 4 0, Value.ref 375, Value.int 223 0, Value.int 4 0, Value.ref 382, Value.int 226 0, Value.int 4 0, Value.ref 389, Value.int 229 0, Value.int 4 0, Value.ref 396, Value.int 232 0, Value.int 4 0, Value.ref 403] }),
    (332, { cls := Value.type "code", data := Data.fields #[Value.str (Str.ofString "Machine") 651, Value.str (Str.ofString "Machine") 652, Value.str (Str.ofString "/claim/cut.py") 653, Value.int 188 0, Value.int 0 0, Value.int 0 0, Value.int 0 0, Value.int 0 0, Value.ref 330, Value.bool false, Value.int 181 0, Value.ref 331, Value.none, Value.none, Value.none, Value.none, Value.int 654 0, Value.int 188 0, Value.str (Str.ofString "/claim/cut.py") 655] }),
    (333, { cls := Value.type "frame", slots := #[some (Value.ref 332), some (Value.ref 3), some (Value.ref 329), none, some (Value.str (Str.ofString "moduleyard.machine") 634), none, some (Value.ref 0)] }),
    (336, eF),
    (343, eF),
    (350, eF),
    (357, eF),
    (364, eF),
    (371, eF),
    (378, eF),
    (385, eF),
    (392, eF),
    (399, eF),
    (410, { cls := Value.type "super", data := Data.fields #[Value.ref 407, Value.ref 407, Value.ref 407] }),
    (411, { cls := Value.type "builtin_function_or_method", data := Data.fields #[Value.builtin "object.__init_subclass__", Value.ref 407] }),
    (412, eT),
    (413, eP),
    (414, { cls := Value.type "dict", data := Data.dict #[{ hash := kh (Str.ofString "__module__"), key := Value.str (Str.ofString "__module__") 776, val := Value.str (Str.ofString "moduleyard.objfile") 767 }, { hash := kh (Str.ofString "__qualname__"), key := Value.str (Str.ofString "__qualname__") 778, val := Value.str (Str.ofString "ObjectFile") 777 }, { hash := kh (Str.ofString "__firstlineno__"), key := Value.str (Str.ofString "__firstlineno__") 780, val := Value.int 235 779 }, { hash := kh (Str.ofString "__init__"), key := Value.str (Str.ofString "__init__") 789, val := Value.ref 425 }, { hash := kh (Str.ofString "__static_attributes__"), key := Value.str (Str.ofString "__static_attributes__") 803, val := Value.ref 426 }] 5 }),
    (415, eT),
    (416, { cls := Value.none, data := Data.fields #[Value.int 237 0, Value.int 4 0, Value.ref 424] }),
    (417, { cls := Value.type "code", data := Data.fields #[Value.str (Str.ofString "ObjectFile") 771, Value.str (Str.ofString "ObjectFile") 772, Value.str (Str.ofString "/claim/cut.py") 773, Value.int 235 0, Value.int 0 0, Value.int 0 0, Value.int 0 0, Value.int 0 0, Value.ref 415, Value.bool false, Value.int 181 0, Value.ref 416, Value.none, Value.none, Value.none, Value.none, Value.int 774 0, Value.int 235 0, Value.str (Str.ofString "/claim/cut.py") 775] }),
    (418, { cls := Value.type "frame", slots := #[some (Value.ref 417), some (Value.ref 3), some (Value.ref 414), none, some (Value.str (Str.ofString "moduleyard.objfile") 767), none, some (Value.ref 0)] }),
    (420, eF),
    (431, { cls := Value.type "super", data := Data.fields #[Value.ref 428, Value.ref 428, Value.ref 428] }),
    (432, { cls := Value.type "builtin_function_or_method", data := Data.fields #[Value.builtin "object.__init_subclass__", Value.ref 428] }),
    (434, eF),
    (441, eF),
    (448, eF),
    (455, eF),
    (462, eF),
    (469, eF)]) _ ?h
  case h => intro kh; simp only [ofS, String.reduceToList, List.map_cons, List.map_nil, Char.reduceToNat, eF, eT, eP]; rfl
  case k => exact fun _ P _ => P
noncomputable def merge2 : Nat → Frag → Frag → Frag
  | 0, _, _ => []
  | _ + 1, [], bs => bs
  | _ + 1, a :: as, [] => a :: as
  | n + 1, a :: as, b :: bs => match Nat.blt a.1 b.1 with
    | true => a :: merge2 n as (b :: bs)
    | false => b :: merge2 n (a :: as) bs
/-- the raw function of a code object: two places ahead of its function -/
noncomputable def raws : Frag → Frag
  | [] => []
  | (a, o) :: r => match o.data with
    | .func f => (a - 2, { cls := .none, data := .func { f with globals := 0, pyModule := .none, code := .none, defaults := .none, kwdefaults := .none } }) :: raws r
    | _ => raws r
noncomputable def boots (P : Params) : Frag := [(0, boot_o_0 P), (1, boot_o_1 P), (4, boot_o_4 P), (5, boot_o_5 P), (6, boot_o_6 P), (7, boot_o_7 P), (8, boot_o_8 P), (9, boot_o_9 P), (10, boot_o_10 P)]
/-- the objects of the run's end -/
noncomputable def objsQ (P : Params) : Frag := merge2 500 (merge2 500 (boots P) (frags P)) (merge2 500 (raws (frags P)) (othersF (PyData.keyHash P)))
noncomputable def takeL {α : Type} : Nat → List α → List α
  | 0, _ => []
  | _ + 1, [] => []
  | n + 1, a :: r => a :: takeL n r
/-- the module's dict at a cut: its first entries, its name as it then is -/
noncomputable def dictAt (k : Nat) (nm : Value) : Obj → Obj
  | ⟨c, d, .dict ⟨e :: r⟩ _, s⟩ => ⟨c, d, .dict ⟨⟨e.hash, e.key, nm⟩ :: takeL k r⟩ (k + 1), s⟩
  | o => o
noncomputable def codeAt (k : Nat) : Obj → Obj
  | ⟨c, d, .fields ⟨l⟩, s⟩ => ⟨c, d, .fields ⟨takeL k l⟩, s⟩
  | o => o
noncomputable def objAt (k3 : Nat) (nm : Value) (k12 : Nat) (two : Bool) (a : Nat) (o : Obj) : Obj := match Nat.beq a 3 with
  | true => dictAt k3 nm o
  | false => match Nat.beq a 12 with
    | true => codeAt k12 o
    | false => match Nat.beq a 2 with
      | true => (match two with | true => o | false => { cls := .none, data := .dict #[] })
      | false => o
noncomputable def treeAt (k3 : Nat) (nm : Value) (k12 : Nat) (two : Bool) : Nat → Frag → BT → BT
  | 0, _, t => t
  | _ + 1, [], t => t
  | n + 1, (a, o) :: r, t => treeAt k3 nm k12 two n r (t.ins a (objAt k3 nm k12 two a o))
noncomputable def stateAt (n k3 : Nat) (nm : Str) (tk k12 : Nat) (two : Bool) (toks : Nat) (w : World) (os : OsState) : SharedT :=
  ⟨treeAt k3 (.str nm tk) k12 two n (objsQ w.params) .nil, n, (boot_heap w.params).life, #[], boot_drawn, toks, os⟩
noncomputable def st0 := stateAt 15 8 "__main__" 164 0 false 187
noncomputable def st1 := stateAt 162 21 "moduleyard.heap" 299 27 false 409
noncomputable def st2 := stateAt 264 24 "moduleyard.cpu" 460 36 true 558
noncomputable def st3 := stateAt 412 31 "moduleyard.machine" 634 45 true 767
noncomputable def st4 := stateAt 475 38 "law_nu0347_01" 811 66 true 887
noncomputable def envQ : Env := { scope := progQ.main.scope, locals := mainNs, globals := mainNs, cells := [], code := .ref 13, frame := some 14 }
noncomputable def codeQ : Code := .body (behindTheImports progQ) envQ
abbrev posZ : Pos := ⟨0, 0, 0, 0⟩
noncomputable def stsQ (a n : Nat) : List Stmt := takeL n (bodyQ.drop a)
noncomputable def seg (s : World → OsState → SharedT) (a n : Nat) (p : Pos) (w : World) := fun os => segRunT treeTable progQ w 11 (some (.ref 6)) 1 1100 (s w os) (piecesOf (stsQ a n) envQ codeQ p [topFrame posZ])
noncomputable def res (s : World → OsState → SharedT) (p : Pos) (w : World) := fun os => some (Flow.next, s w os, codeQ, p)
noncomputable def seg1 := seg st0 0 17 posZ
noncomputable def res1 := res st1 ⟨79, 0, 114, 16⟩
noncomputable def seg2 := seg st1 17 5 ⟨79, 0, 114, 16⟩
noncomputable def res2 := res st2 ⟨125, 0, 157, 17⟩
noncomputable def seg3 := seg st2 22 9 ⟨125, 0, 157, 17⟩
noncomputable def res3 := res st3 ⟨188, 0, 233, 17⟩
noncomputable def seg4 := seg st3 31 9 ⟨188, 0, 233, 17⟩
noncomputable def res4 := res st4 ⟨295, 0, 322, 36⟩
noncomputable def preL (w : World) := fun os => topGo treeTable progQ w 11 (some (.ref 6)) 12 ⟨boot_heap w.params, #[], boot_drawn, boot_toks, os⟩ (topStub progQ)
noncomputable def preR (w : World) := fun os => some ((st0 w os).abs, (⟨denote treeTable codeQ, codeQ, posZ, [topFrame posZ]⟩ : Thread))
noncomputable def blkL (w : World) := fun os => segRunT treeTable progQ w 11 (some (.ref 6)) 1 1 (st0 w os) (blockOf (behindTheImports progQ) envQ codeQ posZ [topFrame posZ])
noncomputable def blkR := res st0 posZ
noncomputable def sndL : Frag → List Obj
  | [] => []
  | (_, o) :: r => o :: sndL r
noncomputable def finH (P : Params) : Heap := ⟨⟨sndL (objsQ P)⟩, (boot_heap P).life⟩
noncomputable def finS (w : World) (os : OsState) : Shared := ⟨finH w.params, #[], boot_drawn, 887, os⟩
noncomputable def look (s : Shared) := openSeen viewP [] (importedModules progQ.main.body) (fun s => xlAt viewP [] s && recOk lawS.row.records s) true s
noncomputable def seen0 (w : World) := fun os => (staticsOk (importedModules progQ.main.body) (boot_heap w.params) (finS w os).heap && namesBound progQ (finS w os).heap && gensDone (finS w os) && laidKept (boot_heap w.params) (finS w os).heap)
noncomputable def seen1 (w : World) := fun os => (look (finS w os)).1
noncomputable def good1 := (openGood viewP []).1
noncomputable def seen2 (w : World) := fun os => (look (finS w os)).2.1
noncomputable def good2 := (openGood viewP []).2.1
noncomputable def seen3 (w : World) := fun os => (look (finS w os)).2.2.1
noncomputable def good3 := (openGood viewP []).2.2.1
noncomputable def seen4 (w : World) := fun os => (look (finS w os)).2.2.2.1
noncomputable def good4 := (openGood viewP []).2.2.2.1
noncomputable def seen5 (w : World) := fun os => (look (finS w os)).2.2.2.2.1
noncomputable def good5 := (openGood viewP []).2.2.2.2.1
noncomputable def seen6 (w : World) := fun os => (look (finS w os)).2.2.2.2.2.1
noncomputable def good6 := (openGood viewP []).2.2.2.2.2.1
noncomputable def seen7 (w : World) := fun os => (look (finS w os)).2.2.2.2.2.2.1
noncomputable def good7 := (openGood viewP []).2.2.2.2.2.2.1
noncomputable def seen8 (w : World) := fun os => (look (finS w os)).2.2.2.2.2.2.2.1
noncomputable def good8 := (openGood viewP []).2.2.2.2.2.2.2.1
noncomputable def seen9 (w : World) := fun os => (look (finS w os)).2.2.2.2.2.2.2.2
noncomputable def good9 := (openGood viewP []).2.2.2.2.2.2.2.2
-- 'k_qdec' lays the quick twins of what stands in its goal; their names bear the names' hashes
theorem twins_laid : (fun _ _ _ _ _ _ _ _ _ _ _ _ _ _ _ _ _ _ _ _ _ _ _ _ _ _ _ _ _ _ _ => true) seg1 res1 seg2 res2 seg3 res3 seg4 res4 preL preR blkL blkR seen0 seen1 good1 seen2 good2 seen3 good3 seen4 good4 seen5 good5 seen6 good6 seen7 good7 seen8 good8 seen9 good9 = true := by k_qdec
theorem seg1_at : ∀ w, PySem.W.Fast.tw17835187871930195743 w = PySem.W.Fast.tw4622685893219836719 w := by
  intro w
  kernel_rfl
theorem seg1_is (w : World) : seg1 w = res1 w := (congrFun PySem.W.Fast.te17835187871930195743 w).trans ((seg1_at w).trans (congrFun PySem.W.Fast.te4622685893219836719 w).symm)
theorem seg2_at : ∀ w, PySem.W.Fast.tw7077377975040079586 w = PySem.W.Fast.tw5725056877204354734 w := by
  intro w
  kernel_rfl
theorem seg2_is (w : World) : seg2 w = res2 w := (congrFun PySem.W.Fast.te7077377975040079586 w).trans ((seg2_at w).trans (congrFun PySem.W.Fast.te5725056877204354734 w).symm)
theorem seg3_at : ∀ w, PySem.W.Fast.tw16950327051319828844 w = PySem.W.Fast.tw17556243373215564161 w := by
  intro w
  kernel_rfl
theorem seg3_is (w : World) : seg3 w = res3 w := (congrFun PySem.W.Fast.te16950327051319828844 w).trans ((seg3_at w).trans (congrFun PySem.W.Fast.te17556243373215564161 w).symm)
theorem seg4_at : ∀ w, PySem.W.Fast.tw14352112207257154691 w = PySem.W.Fast.tw12031255551231400669 w := by
  intro w
  kernel_rfl
theorem seg4_is (w : World) : seg4 w = res4 w := (congrFun PySem.W.Fast.te14352112207257154691 w).trans ((seg4_at w).trans (congrFun PySem.W.Fast.te12031255551231400669 w).symm)
theorem pre_at : ∀ w, PySem.W.Fast.tw1435067368052203930 w = PySem.W.Fast.tw17653279219239862775 w := by
  intro w
  kernel_rfl
theorem pre_is (w : World) : preL w = preR w := (congrFun PySem.W.Fast.te1435067368052203930 w).trans ((pre_at w).trans (congrFun PySem.W.Fast.te17653279219239862775 w).symm)
theorem blk_at : ∀ w, PySem.W.Fast.tw17163393078156831584 w = PySem.W.Fast.tw8616536883710013034 w := by
  intro w
  kernel_rfl
theorem blk_is (w : World) : blkL w = blkR w := (congrFun PySem.W.Fast.te17163393078156831584 w).trans ((blk_at w).trans (congrFun PySem.W.Fast.te8616536883710013034 w).symm)
theorem seen0_at : ∀ w, PySem.W.Fast.tw16164479422392802310 w = fun _ => true := by
  intro w
  kernel_rfl
theorem seen0_is (w : World) : seen0 w = fun _ => true := (congrFun PySem.W.Fast.te16164479422392802310 w).trans (seen0_at w)
theorem seen1_at : ∀ w, PySem.W.Fast.tw1292645050202540561 w = fun _ => PySem.W.Fast.tw14993932899042103965 := by
  intro w
  kernel_rfl
theorem seen1_is (w : World) (os : OsState) : (look (finS w os)).1 = (openGood viewP []).1 := congrFun ((congrFun PySem.W.Fast.te1292645050202540561 w).trans ((seen1_at w).trans (congrArg (fun x (_ : OsState) => x) PySem.W.Fast.te14993932899042103965.symm))) os
theorem seen2_at : ∀ w, PySem.W.Fast.tw7734917097575556961 w = fun _ => PySem.W.Fast.tw14205110778110953275 := by
  intro w
  kernel_rfl
theorem seen2_is (w : World) (os : OsState) : (look (finS w os)).2.1 = (openGood viewP []).2.1 := congrFun ((congrFun PySem.W.Fast.te7734917097575556961 w).trans ((seen2_at w).trans (congrArg (fun x (_ : OsState) => x) PySem.W.Fast.te14205110778110953275.symm))) os
theorem seen3_at : ∀ w, PySem.W.Fast.tw1892174525610136595 w = fun _ => PySem.W.Fast.tw3095472826016440408 := by
  intro w
  kernel_rfl
theorem seen3_is (w : World) (os : OsState) : (look (finS w os)).2.2.1 = (openGood viewP []).2.2.1 := congrFun ((congrFun PySem.W.Fast.te1892174525610136595 w).trans ((seen3_at w).trans (congrArg (fun x (_ : OsState) => x) PySem.W.Fast.te3095472826016440408.symm))) os
theorem seen4_at : ∀ w, PySem.W.Fast.tw552062571639991473 w = fun _ => PySem.W.Fast.tw3452830610525438778 := by
  intro w
  kernel_rfl
theorem seen4_is (w : World) (os : OsState) : (look (finS w os)).2.2.2.1 = (openGood viewP []).2.2.2.1 := congrFun ((congrFun PySem.W.Fast.te552062571639991473 w).trans ((seen4_at w).trans (congrArg (fun x (_ : OsState) => x) PySem.W.Fast.te3452830610525438778.symm))) os
theorem seen5_at : ∀ w, PySem.W.Fast.tw17815073751144516529 w = fun _ => PySem.W.Fast.tw17809626041610767467 := by
  intro w
  kernel_rfl
theorem seen5_is (w : World) (os : OsState) : (look (finS w os)).2.2.2.2.1 = (openGood viewP []).2.2.2.2.1 := congrFun ((congrFun PySem.W.Fast.te17815073751144516529 w).trans ((seen5_at w).trans (congrArg (fun x (_ : OsState) => x) PySem.W.Fast.te17809626041610767467.symm))) os
theorem seen6_at : ∀ w, PySem.W.Fast.tw16378609902313492445 w = fun _ => PySem.W.Fast.tw8904057825776517443 := by
  intro w
  kernel_rfl
theorem seen6_is (w : World) (os : OsState) : (look (finS w os)).2.2.2.2.2.1 = (openGood viewP []).2.2.2.2.2.1 := congrFun ((congrFun PySem.W.Fast.te16378609902313492445 w).trans ((seen6_at w).trans (congrArg (fun x (_ : OsState) => x) PySem.W.Fast.te8904057825776517443.symm))) os
theorem seen7_at : ∀ w, PySem.W.Fast.tw8812502400306458623 w = fun _ => PySem.W.Fast.tw16911706205498537469 := by
  intro w
  kernel_rfl
theorem seen7_is (w : World) (os : OsState) : (look (finS w os)).2.2.2.2.2.2.1 = (openGood viewP []).2.2.2.2.2.2.1 := congrFun ((congrFun PySem.W.Fast.te8812502400306458623 w).trans ((seen7_at w).trans (congrArg (fun x (_ : OsState) => x) PySem.W.Fast.te16911706205498537469.symm))) os
theorem seen8_at : ∀ w, PySem.W.Fast.tw14483757219986385691 w = fun _ => PySem.W.Fast.tw10811570704534254085 := by
  intro w
  kernel_rfl
theorem seen8_is (w : World) (os : OsState) : (look (finS w os)).2.2.2.2.2.2.2.1 = (openGood viewP []).2.2.2.2.2.2.2.1 := congrFun ((congrFun PySem.W.Fast.te14483757219986385691 w).trans ((seen8_at w).trans (congrArg (fun x (_ : OsState) => x) PySem.W.Fast.te10811570704534254085.symm))) os
theorem seen9_at : ∀ w, PySem.W.Fast.tw11728241702365695148 w = fun _ => PySem.W.Fast.tw11895624405826975647 := by
  intro w
  kernel_rfl
theorem seen9_is (w : World) (os : OsState) : (look (finS w os)).2.2.2.2.2.2.2.2 = (openGood viewP []).2.2.2.2.2.2.2.2 := congrFun ((congrFun PySem.W.Fast.te11728241702365695148 w).trans ((seen9_at w).trans (congrArg (fun x (_ : OsState) => x) PySem.W.Fast.te11895624405826975647.symm))) os
theorem look_is (w : World) (os : OsState) : look (finS w os) = openGood viewP [] :=
  Prod.ext (seen1_is w os) (Prod.ext (seen2_is w os) (Prod.ext (seen3_is w os) (Prod.ext (seen4_is w os) (Prod.ext (seen5_is w os) (Prod.ext (seen6_is w os) (Prod.ext (seen7_is w os) (Prod.ext (seen8_is w os) (seen9_is w os))))))))
theorem fin_is (w : World) (os : OsState) : (st4 w os).abs = finS w os := by kernel_rfl
theorem got {t : BT} {n : Nat} {life : Life} : ∀ {l : Frag}, l.map (fun p => t.get p.1) = l.map (fun p => some p.2) → l.map (fun p => alive p.2) = l.map (fun p => some p.2) → (l.map fun p => Nat.blt p.1 n) = l.map (fun _ => true) → (l.map (·.1)).map (absHeap t n life).get? = l.map fun p => some p.2
  | [], _, _, _ => rfl
  | p :: r, a, b, c => by
    obtain ⟨a1, a2⟩ := List.cons.inj a
    obtain ⟨b1, b2⟩ := List.cons.inj b
    obtain ⟨c1, c2⟩ := List.cons.inj c
    have h : (absHeap t n life).get? p.1 = some p.2 := (abs_get (Nat.le_of_ble_eq_true c1) a1).trans b1
    have h' := got (life := life) a2 b2 c2
    show (absHeap t n life).get? p.1 :: (r.map (·.1)).map (absHeap t n life).get? = some p.2 :: r.map fun p => some p.2
    rw [h, h']
theorem heap_is (w : World) (os : OsState) : (st4 w os).abs.heap = absHeap (treeAt 38 (.str "law_nu0347_01" 811) 66 true 475 (objsQ w.params) .nil) 475 (boot_heap w.params).life := by kernel_rfl
theorem got_at (P : Params) : (frags P).map (fun p => (treeAt 38 (.str "law_nu0347_01" 811) 66 true 475 (objsQ P) .nil).get p.1) = (frags P).map fun p => some p.2 := by kernel_rfl
theorem alive_at (P : Params) : (frags P).map (fun p => alive p.2) = (frags P).map fun p => some p.2 := by kernel_rfl
theorem below_at (P : Params) : ((frags P).map fun p => Nat.blt p.1 475) = (frags P).map fun _ => true := by kernel_rfl
theorem kept_is : ∀ P, kept = (hd.heap_1 P).map (·.1) := fun _ => by kernel_rfl
theorem kept_at (w : World) (os : OsState) : kept.map (finS w os).heap.get? = (hd.heap_1 w.params).map fun p => some p.2 := by
  rw [kept_is w.params, ← fin_is w os, heap_is, heap_frags]
  exact got (got_at w.params) (alive_at w.params) (below_at w.params)
theorem sts_are : stsQ 0 17 ++ (stsQ 17 5 ++ (stsQ 22 9 ++ (stsQ 31 9 ++ []))) = behindTheImports progQ := by kernel_rfl
theorem last_at {p : Program} {w : World} {s : Shared} {c : Code} {pos q : Pos} : topRun treeTable p w 11 (some (.ref 6)) 2 s ⟨doneF .next, c, pos, [topFrame q]⟩ = some s := by kernel_rfl
theorem run_at (w : World) (os : OsState) : topRun treeTable progQ w 11 (some (.ref 6)) (12 + (1 + (1100 + (1100 + (1100 + (1100 + 2)))))) ⟨boot_heap w.params, #[], boot_drawn, boot_toks, os⟩ (topStub progQ) = some (finS w os) := by
  rw [← fin_is w os]
  refine go_top (congrFun (pre_is w) os) (piece_block (segRun_of (congrFun (blk_is w) os)) ?_)
  rw [← sts_are]
  exact piece_app (segRun_of (congrFun (seg1_is w) os)) (piece_app (segRun_of (congrFun (seg2_is w) os)) (piece_app (segRun_of (congrFun (seg3_is w) os)) (piece_app (segRun_of (congrFun (seg4_is w) os)) (piece_nil last_at))))
theorem open_at : ∀ w : World, (fencedOpening treeTable progQ w 6896).map (fun s => (s.heap, s.gens, s.drawn, s.toks)) = some (boot_heap w.params, Array.mk [], boot_drawn, boot_toks) :=
  boot_open (by kernel_rfl) rfl (fun s => by kernel_rfl)
theorem size_at : ∀ w : World, ((boot_heap w.params).isNs mainGlobals && (#[] : Array GenState).size == 0, (boot_heap w.params).objs.size, (boot_heap w.params).nsMap mainGlobals "__annotations__") = (true, 11, some (.ref 6)) := fun w => by kernel_rfl
theorem left_at : LeftO PySem.Challenge.rw_nu0347_01.row.prog hd.view_1 [] (fun s => xlAt hd.view_1 [] s && recOk PySem.Challenge.rw_nu0347_01.row.records s) (kHook hd.heap_1 kept kept_is).obs (kHook hd.heap_1 kept kept_is).val 6896 := by
  rw [law_is]
  refine LeftO.of_pieces (p := progQ) (H₀ := boot_heap) (H₁ := finH) open_at size_at run_at rfl fun w => funext fun os => ?_
  rw [view_is]
  exact Prod.ext (congrFun (seen0_is w) os) (Prod.ext (look_is w os) (kept_at w os))
theorem left : hd.2.1 := left_at
local macro_rules | `(tactic| walk_at $s:str) => `(tactic| k_extra $s)
local macro_rules | `(tactic| k_qdec) => `(tactic| decide +kernel)
theorem line_0 : True := by
  k_with_none
  trivial
open PySem.Calls PySem.Spec
set_option maxHeartbeats 8000000
abbrev Led := List (Addr × Obj)

/-- what a call of a def does, whatever stands around it -/
noncomputable def Call (dp un : Nat) (w : World) (f : Addr) (args : List Value) (news : Led) (Post : Value → Led → Prop) : Prop :=
  ∀ (mean : ExcName → Option Value) (mg mb : Str → Option Value) (gd : Option (List Code)) (cn : Str) (cs : Scope) (a : Addr) (ccd : Value) (cl : List (Str × Addr)) (outer : List Env) (A₀ : Around) (base h₀ : Heap) (L : Addr) (m : Str → Option Value) (s : Shared)
    (Q E : Value → Shared → Prop),
    Below A₀ base outer h₀ → Fr h₀ L s.heap m → (hd.heap_1 w.params).In h₀ → News h₀ L s.heap news → Top hd.view_1 (looseW hd.view_1 []) mean mg mb h₀ → cs.kind = .function →
    (∀ r news' h' tk', Post r news' → Fr h₀ L h' m → News h₀ L h' news' → Q r { s with heap := h', toks := tk' }) →
    wpAny (model PySem.Challenge.rw_nu0347_01.row.prog w) (ktrTop dp un gd cn cs L a ccd cl outer) (call (.ref f) args) Q E s

theorem wpAny_depth {α : Type} {M : Model} {A A' : Around} {t : Sem α} {Q : α → Shared → Prop} {E : Value → Shared → Prop} {s : Shared} (h : wpAny M A' t Q E s)
    (h1 : A.handled = A'.handled) (h2 : A.depth ≤ A'.depth) (h3 : A.frames = A'.frames) (h4 : A.guards = A'.guards) (h5 : A.units ≤ A'.units) : wpAny M A t Q E s :=
  fun Γ p hΓ => h Γ p ⟨hΓ.1.trans h1, Nat.le_trans hΓ.2.1 h2, fun l e => hΓ.2.2.1 l (h3.trans e), fun g e => hΓ.2.2.2.1 g (h4.trans e), Nat.le_trans hΓ.2.2.2.2 h5⟩

theorem Call.use {dp un dp' un' : Nat} {w : World} {f : Addr} {args : List Value} {news : Led} {Post : Value → Led → Prop} {mean : ExcName → Option Value} {mg mb : Str → Option Value} {gd : Option (List Code)} {cn : Str} {cs : Scope} {a : Addr} {ccd : Value} {cl : List (Str × Addr)} {outer : List Env} {A₀ : Around} {base h₀ : Heap} {L : Addr} {m : Str → Option Value} {s : Shared}
    {Q E : Value → Shared → Prop} (B : Below A₀ base outer h₀) (F : Fr h₀ L s.heap m) (X : (hd.heap_1 w.params).In h₀) (N : News h₀ L s.heap news) (T : Top hd.view_1 (looseW hd.view_1 []) mean mg mb h₀) (hk : cs.kind = .function)
    (C : Call dp un w f args news Post) (hd' : dp' ≤ dp) (hu : un' ≤ un)
    (h : ∀ r news' h' tk', Post r news' → Fr h₀ L h' m → News h₀ L h' news' → Q r { s with heap := h', toks := tk' }) :
    wpAny (model PySem.Challenge.rw_nu0347_01.row.prog w) (ktrTop dp' un' gd cn cs L a ccd cl outer) (call (.ref f) args) Q E s :=
  wpAny_depth (C mean mg mb gd cn cs a ccd cl outer A₀ base h₀ L m s Q E B F X N T hk h) rfl hd' rfl rfl hu

/-- a list of the call's own whose ints are small -/
noncomputable def RowOk (vs : List Value) : Prop := ∃ ns : List Int, IntsAre vs ns ∧ (∀ v ∈ ns, 0 ≤ v ∧ v < 1024) ∧ vs.length ≤ 160

theorem line_1 : True := by
  (k_with "m_sub" => (intro p hp; simp only [List.mem_append, List.mem_cons, List.not_mem_nil, or_false, false_or, List.append_nil, List.nil_append] at hp ⊢; first | assumption | ((repeat' (refine Or.elim hp ?_ ?_ <;> clear hp <;> intro hp)) <;> (first | assumption | simp only [hp, true_or, or_true]))))
  (k_with "m_enter" => (refine wpAny_call ?_; k_dflt ((refine' code_def ?q9k1 ?q9k2 ?q9k3 ?q9k4 ?q9k5 ?q9kA ?q9kF ?q9kK ?q9k6 ?q9k7 ?q9k8 ?q9k9 ?q9kB ?_ ?q9c2 ?q9c3 ?q9c4 ?q9c5; (case q9kA => exact rfl); (case q9kF => exact rfl); (case q9kK => assumption); (case q9k1 => k_asm); (case q9k2 => k_asm); (case q9k3 => k_asm); (case q9k4 => k_asm); (case q9k5 => k_asm); (case q9k6 => k_is); (case q9k7 => k_is); (case q9k8 => k_room); (case q9k9 => exact BindsTo.of_eq rfl); (case q9c5 => decide); (case q9kB => exact locs rfl); (case q9c2 => exact rfl); (case q9c3 => exact rfl); (case q9c4 => exact rfl); k_whole; intro _ _ _ _ _ _ _ _ _; (try dsimp only); (try k_fold)))))
  trivial
/-- an entry of an object's dict -/
abbrev ent (w : World) (k : String) (t : Tok) (v : Value) : DictEntry := ⟨PyData.keyHash w.params (Str.ofString k), .str (Str.ofString k) t, v⟩
theorem line_2 : True := by
  (k_with "m_used" => ((case q9B => k_asm); (case q9F => k_asm); (case q9X => k_asm); (case q9N => k_asm); (case q9T => k_asm); (case q9hk => first | exact rfl | assumption); (case q9hd => exact Nat.le_of_ble_eq_true rfl); (case q9hu => exact Nat.le_of_ble_eq_true rfl)))
  (k_with "m_enter2" => ((refine' code_def ?q9k1 ?q9k2 ?q9k3 ?q9k4 ?q9k5 ?q9kA ?q9kF ?q9kK ?q9k6 ?q9k7 ?q9k8 ?q9k9 ?q9kB ?_ ?q9c2 ?q9c3 ?q9c4 ?q9c5; (case q9kA => exact rfl); (case q9kF => exact rfl); (case q9kK => first | exact rfl | assumption); (case q9k1 => k_asm); (case q9k2 => k_asm); (case q9k3 => k_asm); (case q9k4 => k_asm); (case q9k5 => k_asm); (case q9k6 => k_is); (case q9k7 => k_is); (case q9k8 => k_room); (case q9k9 => first | exact BindsTo.of_eq rfl | exact binds_K (by k_in) rfl (by k_is) rfl rfl rfl); (case q9c5 => decide); (case q9kB => exact locs rfl); (case q9c2 => exact rfl); (case q9c3 => exact rfl); (case q9c4 => exact rfl); k_whole; intro _ _ _ _ _ _ _ _ _; (try dsimp only); (try k_fold))))
  (k_with "m_cls" => (k_dflt ((refine' call_cls ?q9k1 ?q9k2 ?q9k3 ?q9k4 ?q9k5 ?q9k6 ?_; (case q9k1 => k_asm); (case q9k2 => k_asm); (case q9k3 => k_asm); (case q9k4 => k_is); (case q9k5 => k_is); (case q9k6 => k_is); k_whole); (intro _ _ _ _ _ l1 l2; (try k_lt l1); (try k_lt2 l2); revert l1 l2; intro _ _; (try k_sweep)); walk_at "m_enter2")))
  (k_with "m_on" => ((try dsimp only); (try k_sweep); (try k_fold)))
  trivial
local macro_rules | `(tactic| k_mem) => `(tactic| first | with_reducible assumption | with_reducible exact List.mem_cons_self | (refine List.mem_cons_of_mem _ ?_; k_mem))
theorem News.sub {h₀ : Heap} {L : Addr} {h : Heap} {l l' : Led} (N : News h₀ L h l) (hs : ∀ p ∈ l', p ∈ l) : News h₀ L h l' := fun p hp => N p (hs p hp)
theorem off_one {row : Addr} {l : Led} (h : ∀ p ∈ l, p.1 ≠ row) : OwnOff l [row] := by
  intro p hp b hb
  rw [List.mem_singleton.mp hb]
  exact h p hp

theorem cut_here {α : Type} {M : Model} {A : Around} {t : Sem α} {Q : α → Shared → Prop} {E : Value → Shared → Prop} {s : Shared} (P : α → Shared → Prop) (h1 : wpAny M A t P E s) (h2 : ∀ a s', P a s' → Q a s') : wpAny M A t Q E s := wpAny_mono h1 h2 (fun _ _ e => e)
noncomputable def HereStop (P : Prop) : Prop := P
theorem cut_int {M : Model} {A : Around} {t : Sem Value} {Q : Value → Shared → Prop} {E : Value → Shared → Prop} {s : Shared} (x : Int) (h1 : wpAny M A t (fun v s' => HereStop (∃ tk u, v = .int x tk ∧ s' = { s with toks := u })) E s)
    (h2 : ∀ tk u, Q (.int x tk) { s with toks := u }) : wpAny M A t Q E s := cut_here _ h1 (by rintro v s' ⟨tk, u, rfl, rfl⟩; exact h2 tk u)
set_option maxHeartbeats 400000
theorem fill_C1 : (fun (_ : OpenLaw) (_ : Params → Frag) => True) PySem.Challenge.rw_nu0347_01 hd.heap_1 := by
  w_top off
  k_fill
  trivial
theorem kl_last_snoc (p : List Value) (y : Value) : kl_last (p ++ [y]) = some (p, y) := by
  induction p with
  | nil => rfl
  | cons x r ih => simp only [List.cons_append, kl_last, ih]
theorem line_3 : True := by
  (k_with "call builtin:list.pop" => (k_here; k_dflt (refine' kl_pop ?q9F ?q9N (kl_last_snoc _ _) ?q9U ?q9z ?_; (case q9F => k_asm); (case q9N => k_asm); (case q9U => k_upd); (case q9z => k_asm)); intro _ _ _; (try k_sweep)))
  trivial
theorem ints_snoc : ∀ {vs : List Value} {ns : List Int}, IntsAre vs ns → ns = [] ∧ vs = [] ∨ ∃ vs' ns' x t, vs = vs' ++ [.int x t] ∧ ns = ns' ++ [x] ∧ IntsAre vs' ns'
  | _, _, .nil => .inl ⟨rfl, rfl⟩
  | _, _, .cons x t r => by
    rcases ints_snoc r with ⟨rfl, rfl⟩ | ⟨vs', ns', y, u, rfl, rfl, h⟩
    · exact .inr ⟨[], [], x, t, rfl, rfl, .nil⟩
    · exact .inr ⟨_ :: vs', _ :: ns', y, u, rfl, rfl, .cons x t h⟩
theorem law_next_spec (w : World) (row : Addr) (vs : List Value) (n : Nat) (news : Led) (g : Obj → Led) (U : UpdF row (listOf vs.toArray n) news g) (hr : RowOk vs) :
    Call 400 4000 w 446 [.ref row] news (fun r news' => ∃ x t vs' n', r = .int x t ∧ 0 ≤ x ∧ x < 1024 ∧ RowOk vs' ∧ news' = g (listOf vs'.toArray n')) := by
  obtain ⟨pre, post, rfl, hg, hp1, hp2⟩ := U.split
  unfold Call
  intro mean mg mb gd cn cs a ccd cl outer A₀ base h₀ L m s Q E B F X N T hk hret
  have N1 : News h₀ L s.heap ((row, listOf vs.toArray n) :: (pre ++ post)) := News.sub N (by walk_at "m_sub")
  have ho : OwnOff (pre ++ post) [row] := off_one (fun p hp => (List.mem_append.mp hp).elim (hp1 p) (hp2 p))
  have hback : ∀ o', ∀ p ∈ g o', p ∈ (row, o') :: (pre ++ post) := by
    intro o'
    rw [hg]
    walk_at "m_sub"
  clear N
  generalize pre ++ post = rest at *
  obtain ⟨ns, hi, hb, hl⟩ := hr
  rcases ints_snoc hi with ⟨rfl, rfl⟩ | ⟨vs', ns', x, t, rfl, rfl, hi'⟩
  · walk_at "m_enter"
    k_steps
    exact hret _ _ _ _ ⟨0, _, [], n, rfl, by decide, by decide, ⟨[], .nil, by simp, by simp⟩, rfl⟩ (by assumption) (News.sub (by assumption) (fun p hp => .tail _ (hback _ p hp)))
  · have hz : (vs' ++ [Value.int x t]).length ≤ sizeLine := Nat.le_trans hl (by decide +kernel)
    have hne : ¬ (ns' ++ [x] = []) := by simp
    walk_at "m_enter"
    k_steps
    exact hret _ _ _ _ ⟨x, t, vs', _, rfl, (hb x (by simp)).1, (hb x (by simp)).2, ⟨ns', hi', fun v hv => hb v (by simp [hv]), by simp at hl; omega⟩, rfl⟩ (by assumption) (News.sub (by assumption) (fun p hp => .tail _ (hback _ p hp)))
theorem use_law_next {dp' un' : Nat} {mean : ExcName → Option Value} {mg mb : Str → Option Value} {gd : Option (List Code)} {cn : Str} {cs : Scope} {a0 : Addr} {ccd : Value} {cl : List (Str × Addr)} {outer : List Env} {A₀ : Around} {base0 h₀ : Heap} {L0 : Addr} {m0 : Str → Option Value} {s : Shared} {Q E0 : Value → Shared → Prop} (w : World) (row : Addr) (vs : List Value) (n : Nat) (news : Led) (g : Obj → Led) (U : UpdF row (listOf vs.toArray n) news g) (hr : RowOk vs)
    (B : Below A₀ base0 outer h₀) (F : Fr h₀ L0 s.heap m0) (X : (hd.heap_1 w.params).In h₀) (N : News h₀ L0 s.heap news) (T : Top hd.view_1 (looseW hd.view_1 []) mean mg mb h₀) (hk : cs.kind = .function) (hd' : dp' ≤ 400) (hu : un' ≤ 4000)
    (k0 : ∀ h' tk', Fr h₀ L0 h' m0 → ∀ x t vs' n', 0 ≤ x → x < 1024 → RowOk vs' → News h₀ L0 h' (g (listOf vs'.toArray n')) → 0 ≤ Int.fmod x 12 → Int.fmod x 12 < 12 → 0 ≤ Int.fmod x 4 → Int.fmod x 4 < 4 → 0 ≤ Int.fmod x 2 → Int.fmod x 2 < 2 → 0 ≤ Int.fmod x 7 → Int.fmod x 7 < 7 → Q (.int x t) { s with heap := h', toks := tk' }) :
    wpAny (model PySem.Challenge.rw_nu0347_01.row.prog w) (ktrTop dp' un' gd cn cs L0 a0 ccd cl outer) (call (.ref 446) [.ref row]) Q E0 s :=
  Call.use B F X N T hk (law_next_spec w row vs n news g U hr) hd' hu fun r news' h' tk' hp F' N' => by
    obtain ⟨x, t, vs', n', rfl, b1, b2, hr1, rfl⟩ := hp
    exact k0 _ _ F' x t vs' n' b1 b2 hr1 N' (fmod_lo x (by decide)) (fmod_hi x (by decide)) (fmod_lo x (by decide)) (fmod_hi x (by decide)) (fmod_lo x (by decide)) (fmod_hi x (by decide)) (fmod_lo x (by decide)) (fmod_hi x (by decide))
theorem line_4 : True := by
  (k_with "call ref" => (k_here; k_dflt (refine' use_law_next _ _ _ _ _ _ ?q9U ?q9hr ?q9B ?q9F ?q9X ?q9N ?q9T ?q9hk ?q9hd ?q9hu ?_; walk_at "m_used"; (case q9U => k_updF); (case q9hr => k_asm); k_whole); intro _ _ _ _ _ _ _ _ _ _; intro N'; (try dsimp only at N'); revert N'; intro _; intro _ _ _ _ _ _ _ _; walk_at "m_on"))
  trivial
set_option maxHeartbeats 400000
theorem fill_C2 : (fun (_ : OpenLaw) (_ : Params → Frag) => True) PySem.Challenge.rw_nu0347_01 hd.heap_1 := by
  w_top off
  k_fill
  trivial
/-- what the words dict says -/
noncomputable def MemIs (kvs : List (Int × Value)) (W : Int → Int) : Prop := ∀ k, (valueAt kvs k = none ∧ W k = 0) ∨ ∃ t, valueAt kvs k = some (.int (W k) t)

theorem place_spec (w : World) (mem md wd : Addr) (sz a : Int) (ta t1 t2 t3 : Tok) (news : Led) (h1 : (mem, instObj 315 md) ∈ news) (h2 : (md, dictOf [ent w "size" t1 (.int sz t2), ent w "words" t3 (.ref wd)] 2) ∈ news) (ha : 0 ≤ a) (ha2 : a < sz) :
    Call 450 4500 w 284 [.ref mem, .int a ta] news (fun r news' => news' = news ∧ ∃ t, r = .int (a.fdiv 4) t) := by
  unfold Call
  intro mean mg mb gd cn cs a ccd cl outer A₀ base h₀ L m s Q E B F X N T hk hret
  walk_at "m_enter"
  k_steps
  exact hret _ _ _ _ ⟨rfl, _, rfl⟩ (by assumption) (by assumption)

theorem use_place {dp' un' : Nat} {mean : ExcName → Option Value} {mg mb : Str → Option Value} {gd : Option (List Code)} {cn : Str} {cs : Scope} {a0 : Addr} {ccd : Value} {cl : List (Str × Addr)} {outer : List Env} {A₀ : Around} {base0 h₀ : Heap} {L0 : Addr} {m0 : Str → Option Value} {s : Shared} {Q E0 : Value → Shared → Prop} (w : World) (mem md wd : Addr) (sz a : Int) (ta t1 t2 t3 : Tok) (news : Led) (h1 : (mem, instObj 315 md) ∈ news) (h2 : (md, dictOf [ent w "size" t1 (.int sz t2), ent w "words" t3 (.ref wd)] 2) ∈ news) (ha : 0 ≤ a) (ha2 : a < sz)
    (B : Below A₀ base0 outer h₀) (F : Fr h₀ L0 s.heap m0) (X : (hd.heap_1 w.params).In h₀) (N : News h₀ L0 s.heap news) (T : Top hd.view_1 (looseW hd.view_1 []) mean mg mb h₀) (hk : cs.kind = .function) (hd' : dp' ≤ 450) (hu : un' ≤ 4500)
    (k0 : ∀ h' tk', Fr h₀ L0 h' m0 → ∀ t, News h₀ L0 h' (news) → Q (.int (a.fdiv 4) t) { s with heap := h', toks := tk' }) :
    wpAny (model PySem.Challenge.rw_nu0347_01.row.prog w) (ktrTop dp' un' gd cn cs L0 a0 ccd cl outer) (call (.ref 284) [.ref mem, .int a ta]) Q E0 s :=
  Call.use B F X N T hk (place_spec w mem md wd sz a ta t1 t2 t3 news h1 h2 ha ha2) hd' hu fun r news' h' tk' hp F' N' => by
    obtain ⟨rfl, t, rfl⟩ := hp
    exact k0 _ _ F' t N'
theorem line_5 : True := by
  (k_with "call ref" => (k_here; k_dflt (refine' use_place _ _ _ _ _ _ _ _ _ _ _ ?q9h1 ?q9h2 ?q9h3 ?q9h4 ?q9B ?q9F ?q9X ?q9N ?q9T ?q9hk ?q9hd ?q9hu ?_; walk_at "m_used"; (case q9h1 => k_mem); (case q9h2 => k_mem); (case q9h3 => k_asm); (case q9h4 => k_asm); k_whole); intro _ _ _ _ _; walk_at "m_on"))
  trivial

theorem valueAt_stored (kvs : List (Int × Value)) (k j : Int) (v : Value) : valueAt (stored kvs k v) j = if j = k then some v else valueAt kvs j := by
  unfold stored
  by_cases h : kvs.any (fun kv => kv.1 = k) = true
  · rw [if_pos h]
    induction kvs with
    | nil => simp at h
    | cons p r ih =>
      obtain ⟨a, x⟩ := p
      have key : ∀ r : List (Int × Value), j ≠ k → valueAt (r.map (fun kv => if kv.1 = k then (kv.1, v) else kv)) j = valueAt r j := by
        intro r hj
        induction r with
        | nil => rfl
        | cons q r ih =>
          obtain ⟨b, y⟩ := q
          simp only [valueAt, List.map_cons, List.find?_cons] at ih ⊢
          by_cases hb : b = k
          · subst hb
            have hb' : ¬ b = j := fun e => hj e.symm
            simpa [hb'] using ih
          · simp only [if_neg hb]
            by_cases hbj : b = j
            · simp [hbj]
            · simpa [hbj] using ih
      by_cases hj : j = k
      · subst hj
        rw [if_pos rfl]
        by_cases ha : a = j
        · subst ha; simp [valueAt]
        · have h2 : r.any (fun kv => kv.1 = j) = true := by simpa [ha] using h
          have h3 := ih h2
          rw [if_pos rfl] at h3
          simp only [valueAt, List.map_cons, List.find?_cons, if_neg ha] at h3 ⊢
          simpa [ha] using h3
      · rw [if_neg hj, key _ hj]
  · rw [if_neg h]
    simp only [Bool.not_eq_true, List.any_eq_false, decide_eq_true_eq] at h
    simp only [valueAt, List.find?_append]
    by_cases hj : j = k
    · subst hj
      have : kvs.find? (fun kv => decide (kv.1 = j)) = none := List.find?_eq_none.mpr (by simpa using h)
      simp [this]
    · have hj' : ¬ k = j := fun e => hj e.symm
      cases hq : kvs.find? (fun kv => decide (kv.1 = j)) <;> simp [hj, hj']
theorem stored_len (kvs : List (Int × Value)) (k : Int) (v : Value) : (stored kvs k v).length ≤ kvs.length + 1 := by
  unfold stored
  split <;> simp
theorem memIs_put {kvs : List (Int × Value)} {W : Int → Int} (h : MemIs kvs W) (k v : Int) (t : Tok) : MemIs (stored kvs k (.int v t)) (fun j => if j = k then v else W j) := by
  intro j
  rw [valueAt_stored]
  by_cases hj : j = k
  · simp only [if_pos hj]; exact .inr ⟨t, rfl⟩
  · simp only [if_neg hj]; exact h j
theorem mem_get2 {w : World} {A : Around} {E : Value → Shared → Prop} {s : Shared} {h₀ : Heap} {L d : Addr} {news : Led} {o : Obj} {kvs : List (Int × Value)} {W : Int → Int} {k : Int} {tk t0 : Tok} {Q : Value → Shared → Prop} (N : News h₀ L s.heap news) (hp : (d, o) ∈ news)
    (hD : o.IsDictOf (intKind PySem.Challenge.rw_nu0347_01.row.prog w) kvs) (lo : (d == sysModules) = false) (hW : MemIs kvs W) (h : ∀ t, Q (.int (W k) t) { s with toks := s.toks + 1 }) :
    wpAny (model PySem.Challenge.rw_nu0347_01.row.prog w) A (call (.builtin "dict.get") [.ref d, .int k tk, .int 0 t0]) Q E s := by
  refine kdg_get2 N hp hD lo (intKind_is _ _ _ _) _ rfl ?_
  rcases hW k with ⟨h1, h2⟩ | ⟨t, h1⟩
  · have := h t0; rw [h2] at this; rw [h1]; exact this
  · rw [h1]; exact h t
theorem mem_meth {w : World} {A : Around} {E : Value → Shared → Prop} {s : Shared} {h₀ : Heap} {L d : Addr} {news : Led} {o : Obj} {kvs : List (Int × Value)} {pl : Sem Bool} {Q : Value × List Value → Shared → Prop} (N : News h₀ L s.heap news) (hp : (d, o) ∈ news)
    (hD : o.IsDictOf (intKind PySem.Challenge.rw_nu0347_01.row.prog w) kvs) (h : Q (.builtin "dict.get", [.ref d]) s) : wpAny (model PySem.Challenge.rw_nu0347_01.row.prog w) A (getMethod (.ref d) (Str.ofString "get") pl) Q E s := kdg_method N hp hD h
theorem mem_set {w : World} {A : Around} {E : Value → Shared → Prop} {s : Shared} {h₀ : Heap} {L d : Addr} {m : Str → Option Value} {news : Led} {g : Obj → Led} {o : Obj} {kvs : List (Int × Value)} {k : Int} {tk : Tok} {v : Value} {Q : Unit → Shared → Prop} (F : Fr h₀ L s.heap m) (N : News h₀ L s.heap news) (U : UpdF d o news g)
    (hD : o.IsDictOf (intKind PySem.Challenge.rw_nu0347_01.row.prog w) kvs) (hz : kvs.length ≤ sizeLine)
    (h : ∀ h' o', Fr h₀ L h' m → News h₀ L h' (g o') → o'.IsDictOf (intKind PySem.Challenge.rw_nu0347_01.row.prog w) (stored kvs k v) → Q () { s with heap := h', toks := s.toks + 1 }) :
    wpAny (model PySem.Challenge.rw_nu0347_01.row.prog w) A (setItem (.ref d) (.int k tk) v) Q E s := kda_set F N U hD (intKind_is _ _ _ _) hz h
theorem line_6 : True := by
  (k_with "getMethod ref" => (k_here; (with_reducible show wpAny _ _ (getMethod (Value.ref _) (Str.ofString "get") _) _ _ _); k_dflt (refine' mem_meth ?q9N ?q9hp ?q9hD ?_; (case q9N => k_asm); (case q9hp => k_mem); (case q9hD => k_asm))))
  (k_with "call builtin:dict.get" => (k_here; k_dflt (refine' mem_get2 ?q9N ?q9hp ?q9hD ?q9lo ?q9hW ?_; (case q9N => k_asm); (case q9hp => k_mem); (case q9hD => k_asm); (case q9lo => k_asm); (case q9hW => k_asm)); intro _))
  (k_with "setItem ref int" => (k_here; k_dflt (refine' mem_set ?q9F ?q9N ?q9U ?q9hD ?q9z ?_; (case q9F => k_asm); (case q9N => k_asm); (case q9U => k_updF); (case q9hD => k_asm); (case q9z => k_asm)); intro _ _ _; intro N'; (try dsimp only at N'); revert N'; intro _; intro _; (try k_sweep)))
  trivial

theorem word_spec (w : World) (mem md wd : Addr) (sz a : Int) (ta t1 t2 t3 : Tok) (o : Obj) (kvs : List (Int × Value)) (W : Int → Int) (news : Led) (h1 : (mem, instObj 315 md) ∈ news) (h2 : (md, dictOf [ent w "size" t1 (.int sz t2), ent w "words" t3 (.ref wd)] 2) ∈ news)
    (h3 : (wd, o) ∈ news) (lo : (wd == sysModules) = false) (hD : o.IsDictOf (intKind PySem.Challenge.rw_nu0347_01.row.prog w) kvs) (hW : MemIs kvs W) (ha : 0 ≤ a) (ha2 : a < sz) :
    Call 430 4300 w 291 [.ref mem, .int a ta] news (fun r news' => news' = news ∧ ∃ t, r = .int (W (a.fdiv 4)) t) := by
  unfold Call
  intro mean mg mb gd cn cs a ccd cl outer A₀ base h₀ L m s Q E B F X N T hk hret
  walk_at "m_enter"
  k_steps
  exact hret _ _ _ _ ⟨rfl, _, rfl⟩ (by assumption) (by assumption)

theorem put_spec (w : World) (mem md wd : Addr) (sz a v : Int) (ta tv t1 t2 t3 : Tok) (o : Obj) (kvs : List (Int × Value)) (W : Int → Int) (news : Led) (g : Obj → Led) (h1 : (mem, instObj 315 md) ∈ news) (h2 : (md, dictOf [ent w "size" t1 (.int sz t2), ent w "words" t3 (.ref wd)] 2) ∈ news)
    (U : UpdF wd o news g) (lo : (wd == sysModules) = false) (hD : o.IsDictOf (intKind PySem.Challenge.rw_nu0347_01.row.prog w) kvs) (hW : MemIs kvs W) (ha : 0 ≤ a) (ha2 : a < sz) (hv : 0 ≤ v) (hv2 : v < 4294967296) (hlen : kvs.length ≤ 1000) :
    Call 430 4300 w 298 [.ref mem, .int a ta, .int v tv] news (fun r news' => ∃ o' kvs', r = .none ∧ news' = g o' ∧ o'.IsDictOf (intKind PySem.Challenge.rw_nu0347_01.row.prog w) kvs' ∧ kvs'.length ≤ kvs.length + 1 ∧ MemIs kvs' (fun k => if k = a.fdiv 4 then v else W k)) := by
  unfold Call
  intro mean mg mb gd cn cs a ccd cl outer A₀ base h₀ L m s Q E B F X N T hk hret
  obtain ⟨pre, post, rfl, hg, hp1, hp2⟩ := U.split
  have N1 : News h₀ L s.heap ((wd, o) :: (pre ++ post)) := News.sub N (by walk_at "m_sub")
  have ho : OwnOff (pre ++ post) [wd] := off_one (fun p hp => (List.mem_append.mp hp).elim (hp1 p) (hp2 p))
  have hback : ∀ o', ∀ p ∈ g o', p ∈ (wd, o') :: (pre ++ post) := by
    intro o'
    rw [hg]
    walk_at "m_sub"
  have hfor : ∀ p ∈ pre ++ (wd, o) :: post, p ∈ (wd, o) :: (pre ++ post) := by walk_at "m_sub"
  replace h1 := hfor _ h1
  replace h2 := hfor _ h2
  clear N hfor
  generalize pre ++ post = rest at *
  have hz : kvs.length ≤ sizeLine := Nat.le_trans hlen (by decide +kernel)
  have hv3 : v.fmod 4294967296 = v := by rw [Int.fmod_eq_emod_of_nonneg _ (by decide)]; omega
  walk_at "m_enter"
  k_steps
  rw [hv3] at *
  exact hret _ _ _ _ ⟨_, _, rfl, rfl, (by assumption), stored_len _ _ _, memIs_put hW _ _ _⟩ (by assumption) (News.sub (by assumption) (hback _))
theorem use_word {dp' un' : Nat} {mean : ExcName → Option Value} {mg mb : Str → Option Value} {gd : Option (List Code)} {cn : Str} {cs : Scope} {a0 : Addr} {ccd : Value} {cl : List (Str × Addr)} {outer : List Env} {A₀ : Around} {base0 h₀ : Heap} {L0 : Addr} {m0 : Str → Option Value} {s : Shared} {Q E0 : Value → Shared → Prop} (w : World) (mem md wd : Addr) (sz a : Int) (ta t1 t2 t3 : Tok) (o : Obj) (kvs : List (Int × Value)) (W : Int → Int) (news : Led) (h1 : (mem, instObj 315 md) ∈ news) (h2 : (md, dictOf [ent w "size" t1 (.int sz t2), ent w "words" t3 (.ref wd)] 2) ∈ news) (h3 : (wd, o) ∈ news) (lo : (wd == sysModules) = false) (hD : o.IsDictOf (intKind PySem.Challenge.rw_nu0347_01.row.prog w) kvs) (hW : MemIs kvs W) (ha : 0 ≤ a) (ha2 : a < sz)
    (B : Below A₀ base0 outer h₀) (F : Fr h₀ L0 s.heap m0) (X : (hd.heap_1 w.params).In h₀) (N : News h₀ L0 s.heap news) (T : Top hd.view_1 (looseW hd.view_1 []) mean mg mb h₀) (hk : cs.kind = .function) (hd' : dp' ≤ 430) (hu : un' ≤ 4300)
    (k0 : ∀ h' tk', Fr h₀ L0 h' m0 → ∀ t, News h₀ L0 h' (news) → Q (.int (W (a.fdiv 4)) t) { s with heap := h', toks := tk' }) :
    wpAny (model PySem.Challenge.rw_nu0347_01.row.prog w) (ktrTop dp' un' gd cn cs L0 a0 ccd cl outer) (call (.ref 291) [.ref mem, .int a ta]) Q E0 s :=
  Call.use B F X N T hk (word_spec w mem md wd sz a ta t1 t2 t3 o kvs W news h1 h2 h3 lo hD hW ha ha2) hd' hu fun r news' h' tk' hp F' N' => by
    obtain ⟨rfl, t, rfl⟩ := hp
    exact k0 _ _ F' t N'
theorem use_put {dp' un' : Nat} {mean : ExcName → Option Value} {mg mb : Str → Option Value} {gd : Option (List Code)} {cn : Str} {cs : Scope} {a0 : Addr} {ccd : Value} {cl : List (Str × Addr)} {outer : List Env} {A₀ : Around} {base0 h₀ : Heap} {L0 : Addr} {m0 : Str → Option Value} {s : Shared} {Q E0 : Value → Shared → Prop} (w : World) (mem md wd : Addr) (sz a v : Int) (ta tv t1 t2 t3 : Tok) (o : Obj) (kvs : List (Int × Value)) (W : Int → Int) (news : Led) (g : Obj → Led) (h1 : (mem, instObj 315 md) ∈ news) (h2 : (md, dictOf [ent w "size" t1 (.int sz t2), ent w "words" t3 (.ref wd)] 2) ∈ news) (U : UpdF wd o news g) (lo : (wd == sysModules) = false) (hD : o.IsDictOf (intKind PySem.Challenge.rw_nu0347_01.row.prog w) kvs) (hW : MemIs kvs W) (ha : 0 ≤ a) (ha2 : a < sz) (hv : 0 ≤ v) (hv2 : v < 4294967296) (hlen : kvs.length ≤ 1000)
    (B : Below A₀ base0 outer h₀) (F : Fr h₀ L0 s.heap m0) (X : (hd.heap_1 w.params).In h₀) (N : News h₀ L0 s.heap news) (T : Top hd.view_1 (looseW hd.view_1 []) mean mg mb h₀) (hk : cs.kind = .function) (hd' : dp' ≤ 430) (hu : un' ≤ 4300)
    (k0 : ∀ h' tk', Fr h₀ L0 h' m0 → ∀ o' kvs', o'.IsDictOf (intKind PySem.Challenge.rw_nu0347_01.row.prog w) kvs' → kvs'.length ≤ kvs.length + 1 → MemIs kvs' (fun k => if k = a.fdiv 4 then v else W k) → News h₀ L0 h' (g o') → Q (.none) { s with heap := h', toks := tk' }) :
    wpAny (model PySem.Challenge.rw_nu0347_01.row.prog w) (ktrTop dp' un' gd cn cs L0 a0 ccd cl outer) (call (.ref 298) [.ref mem, .int a ta, .int v tv]) Q E0 s :=
  Call.use B F X N T hk (put_spec w mem md wd sz a v ta tv t1 t2 t3 o kvs W news g h1 h2 U lo hD hW ha ha2 hv hv2 hlen) hd' hu fun r news' h' tk' hp F' N' => by
    obtain ⟨o', kvs', rfl, rfl, hD1, hl1, hW1⟩ := hp
    exact k0 _ _ F' o' kvs' hD1 hl1 hW1 N'
open PyProof.V
set_option maxHeartbeats 1000000
section
variable {prog : Program} {w : World} {A : Around} {E : Value → Shared → Prop} {s : Shared} {env : Env} {h₀ : Heap} {target : Expr} {body : List Stmt} {Q : Flow → Shared → Prop} {σ : Type}

theorem kstB_self {m : Str → Option Value} {ps : List (Str × Value)} (h : ∀ p ∈ ps, m p.1 = some p.2) : kstB m ps = m := by
  funext z
  exact kstB_eq h fun _ => rfl

/-- the heart of my loops: an invariant over the turn's number, a datum of the prover's own and the ledger; some names of the frame -/
theorem my_loop {I : Addr} {fp : List Addr} {n : Nat} {P Md : Nat → Value → Heap → Prop} {St : Nat → Heap → Prop} {m₀ : Str → Option Value} {news : Led} (fix : Led) (Inv : Nat → σ → Led → Prop) (ps : σ → List (Str × Value)) (c₀ : σ)
    (W : KTurns prog w A target I fp [I] n P Md St) (hfp : ∀ b ∈ fp, b = I ∨ b ∈ fix.map (·.1)) (hI : I ∈ fp) (hob : ∀ i h, St i h → ∃ o, h.get? I = some o) (hLf : env.locals ∉ fp) (hI0 : h₀.get? I = none) (hst : St 0 s.heap)
    (F : Fr h₀ env.locals s.heap m₀) (N : News h₀ env.locals s.heap news) (hnI : ∀ p ∈ news, p.1 ≠ I) (hfix : ∀ p ∈ fix, p ∈ news) (h0 : Inv 0 c₀ news) (hps : ∀ p ∈ ps c₀, m₀ p.1 = some p.2)
    (turn : ∀ i v (hp : Heap) c nx (u : Str → Option Value) h tk own, i < n → P i v hp → Inv i c nx → (∀ p ∈ fix, p ∈ nx) → OwnOff own (nx.map (·.1)) → Fr h₀ env.locals h (kstB u (ps c)) → News h₀ env.locals h (nx ++ own) →
      wpAny (model prog w) A (assign target env v) (fun _ s₃ => wpAny (model prog w) A (execs body env)
        (InvPostG h₀ env.locals (fun m' nx' => (∀ p ∈ fix, p ∈ nx') ∧ ∃ c', Inv (i + 1) c' nx' ∧ ∀ p ∈ ps c', m' p.1 = some p.2) own { s with heap := h, toks := tk } Q) E s₃) E { s with heap := h, toks := tk })
    (done : ∀ c nx (u : Str → Option Value) h tk, Inv n c nx → (∀ p ∈ fix, p ∈ nx) → Fr h₀ env.locals h (kstB u (ps c)) → News h₀ env.locals h nx → Q .next { s with heap := h, toks := tk }) :
    TurnsAt prog w A h₀ env target body Q E (.ref I) s := by
  refine ⟨I, fp, [I], n, P, Md, St, m₀, news, (fun i m nx => (∀ p ∈ fix, p ∈ nx) ∧ ∃ c, Inv i c nx ∧ ∀ p ∈ ps c, m p.1 = some p.2), rfl, W, hLf, ?_, ?_, hst, F, N, ⟨hfix, c₀, h0, hps⟩, ?_, ?_⟩
  · intro b hb
    rw [List.mem_singleton.mp hb]; exact hI0
  · intro p hp hb
    exact hnI p hp (List.mem_singleton.mp hb)
  · rintro i v m₁ nx h tk own hin hP ⟨hfx, c, hInv, hm⟩ hoff hown hget hmem hst' F₁ N₁
    obtain ⟨oI, hoI⟩ := hob _ _ hst'
    have hIown : (I, oI) ∈ own.filter fun p => decide (p.1 = I) := List.mem_filter.mpr ⟨hmem _ hI hI0 _ hoI, by simp⟩
    have hsep : OwnOff (own.filter fun p => decide (p.1 = I)) (nx.map (·.1)) := by
      intro p hp b hb e
      obtain ⟨q, hq, rfl⟩ := List.mem_map.mp hb
      have h1 : p.1 = I := by simpa using (List.mem_filter.mp hp).2
      exact hoff q hq (List.mem_singleton.mpr (e ▸ h1))
    have N₂ : News h₀ env.locals h (nx ++ own.filter fun p => decide (p.1 = I)) := fun p hp => N₁ p ((List.mem_append.mp hp).elim (fun h => List.mem_append.mpr (.inr h)) fun h => List.mem_append.mpr (.inl ((List.mem_filter.mp h).1)))
    have F₂ : Fr h₀ env.locals h (kstB m₁ (ps c)) := by rw [kstB_self hm]; exact F₁
    refine wpAny_mono (turn i v h c nx m₁ h tk _ hin hP hInv hfx hsep F₂ N₂) (fun _ s₃ z => wpAny_mono z (fun f s₂ p => ?_) fun _ _ e => e) fun _ _ e => e
    have fin : InvEndG h₀ env.locals (fun m' nx' => (∀ p ∈ fix, p ∈ nx') ∧ ∃ c', Inv (i + 1) c' nx' ∧ ∀ p ∈ ps c', m' p.1 = some p.2) (own.filter fun p => decide (p.1 = I)) { s with heap := h, toks := tk } s₂ →
        LoopStepU h₀ env.locals [I] own (fun m nx => (∀ p ∈ fix, p ∈ nx) ∧ ∃ c, Inv (i + 1) c nx ∧ ∀ p ∈ ps c, m p.1 = some p.2) { s with heap := h, toks := tk } .next s₂ := by
      rintro ⟨h', tk', m', news', nx', e, F', N', hn, ho, ha, hm'⟩
      refine ⟨rfl, h', tk', m', nx', e, F', fun p hp => ?_, fun p hp hq => ?_, hm'⟩
      · rcases List.mem_append.mp hp with hq | hq
        · by_cases hpI : p.1 = I
          · exact N' p (ho p (List.mem_filter.mpr ⟨hq, by simpa using hpI⟩))
          · rcases hfp _ (hown p hq) with h1 | h1
            · exact absurd h1 hpI
            · obtain ⟨q, hq1, hq2⟩ := List.mem_map.mp h1
              have h2 : h.get? p.1 = some p.2 := hget p hq
              have h3 : h.get? q.1 = some q.2 := (N₁ q (List.mem_append.mpr (.inr (hfx q hq1)))).1
              rw [hq2, h2] at h3
              have h4 : p = q := Prod.ext hq2.symm (Option.some.inj h3)
              rw [h4]
              exact N' _ (hn _ (hm'.1 q hq1))
        · exact N' p (hn p hq)
      · exact ha _ hIown p.1 (List.mem_map.mpr ⟨p, hp, rfl⟩) (List.mem_singleton.mp hq).symm
    cases f with
    | ret v => exact .ret p
    | brk => exact .brk p
    | next => exact .next (fin p)
    | cont => exact .cont (fin p)
  · rintro h' tk m' news' F' N' _ ⟨hfx, c, hInv, hm⟩
    refine done c news' m' h' tk hInv hfx ?_ N'
    rw [kstB_self hm]; exact F'

/-- over a list of the ledger, one name -/
theorem my_list {l : Addr} {vs : List Value} {nn : Nat} {m₀ : Str → Option Value} {news : Led} (Inv : Nat → σ → Led → Prop) (ps : σ → List (Str × Value)) (c₀ : σ) (hh : A.handled = none) (hl : (l, listOf vs.toArray nn) ∈ news)
    (F : Fr h₀ env.locals s.heap m₀) (N : News h₀ env.locals s.heap news) (h0 : Inv 0 c₀ news) (hps : ∀ p ∈ ps c₀, m₀ p.1 = some p.2)
    (hgo : (∀ (it v : Value), letOwnedTupleGo target it v = pure ()) ∨ (∃ elts k pos, target = .Tuple elts k pos) ∧ ∀ v ∈ vs, ∃ T, v = .ref T)
    (turn : ∀ i v c nx (u : Str → Option Value) h tk own, vs[i]? = some v → Inv i c nx → (l, listOf vs.toArray nn) ∈ nx → OwnOff own (nx.map (·.1)) → Fr h₀ env.locals h (kstB u (ps c)) → News h₀ env.locals h (nx ++ own) →
      wpAny (model prog w) A (assign target env v) (fun _ s₃ => wpAny (model prog w) A (execs body env)
        (InvPostG h₀ env.locals (fun m' nx' => (∀ p ∈ [(l, listOf vs.toArray nn)], p ∈ nx') ∧ ∃ c', Inv (i + 1) c' nx' ∧ ∀ p ∈ ps c', m' p.1 = some p.2) own { s with heap := h, toks := tk } Q) E s₃) E { s with heap := h, toks := tk })
    (done : ∀ c nx (u : Str → Option Value) h tk, Inv vs.length c nx → (l, listOf vs.toArray nn) ∈ nx → Fr h₀ env.locals h (kstB u (ps c)) → News h₀ env.locals h nx → Q .next { s with heap := h, toks := tk }) :
    wpAny (model prog w) A (pyIter (.ref l)) (fun it s₂ => TurnsAt prog w A h₀ env target body Q E it s₂) E s := by
  have hol : s.heap.get? l = some (listOf vs.toArray nn) := (N _ hl).1
  have hls : s.heap.IsList l vs.toArray := ⟨_, hol, rfl, nn, rfl⟩
  have hne : l ≠ s.heap.objs.size := Nat.ne_of_lt (Heap.lt_size hol)
  refine wpAny_pyIter_list hls ?_
  have W := Walks.list (prog := prog) (w := w) hh s.heap.objs.size l hne vs.toArray
  have hlen : vs.toArray.size = vs.length := by simp
  rw [hlen] at W
  have WT : KTurns prog w A target s.heap.objs.size [s.heap.objs.size, l] [s.heap.objs.size] vs.length (fun i v _ => vs[i]? = some v) (fun i v h => vs[i]? = some v ∧ (h.IsListIter s.heap.objs.size l (i + 1) ∧ h.IsList l vs.toArray)) (fun i h => h.IsListIter s.heap.objs.size l i ∧ h.IsList l vs.toArray) := by
    refine ⟨W.sub, W.frame, fun i s Q E hi st hQ => W.item i s Q E hi st fun v h' tk hP st' hk => hQ v h' tk ⟨by simpa using hP, st'⟩ hk, fun i v s Q E hm hQ => ?_, W.done⟩
    rcases hgo with hgo | ⟨⟨elts, k, pos, rfl⟩, hgo⟩
    · rw [hgo]; exact wpAny_pure (hQ _ hm.1 hm.2 fun _ _ _ e => e)
    · obtain ⟨T, rfl⟩ := hgo v (List.mem_of_getElem? hm.1)
      exact wpAny_letOwnedTupleGo_listiter hm.2.1 (hQ _ hm.1 hm.2 fun _ _ _ e => e)
  refine my_loop [(l, listOf vs.toArray nn)] Inv ps c₀ WT ?_ (by simp) ?_ ?_ (next_is_new F) ⟨⟨_, Heap.get?_push_size _ rfl, rfl, rfl⟩, hls.at fun o e => Heap.get?_push_of_some _ e⟩ (F.push _) (fun p hp => ⟨Heap.get?_push_of_some _ (N p hp).1, (N p hp).2⟩) ?_ ?_ h0 hps ?_ ?_
  · intro b hb
    rcases List.mem_cons.mp hb with e | hb
    · exact .inl e
    · exact .inr (by simpa using hb)
  · rintro i h ⟨⟨o, ho, _⟩, _⟩
    exact ⟨o, ho⟩
  · intro hm
    rcases List.mem_cons.mp hm with e | hm
    · exact absurd F.ns.lt (e ▸ Nat.lt_irrefl _)
    · exact (N _ hl).2.1 ((List.mem_singleton.mp hm).symm)
  · intro p hp e
    exact absurd (Heap.lt_size (N p hp).1) (e ▸ Nat.lt_irrefl _)
  · intro p hp
    rw [List.mem_singleton.mp hp]; exact hl
  · intro i v hp c nx u h tk own _ hv hI hfx hoff F₁ N₁
    exact turn i v c nx u h tk own hv hI (hfx _ (List.mem_singleton.mpr rfl)) hoff F₁ N₁
  · intro c nx u h tk hI hfx F₁ N₁
    exact done c nx u h tk hI (hfx _ (List.mem_singleton.mpr rfl)) F₁ N₁

/-- over a range by ones -/
theorem my_range {r : Addr} {a₀ b₀ : Int} {t₀ u₀ v₀ : Tok} {n : Nat} {m₀ : Str → Option Value} {news : Led} {x : Str} {px : Pos} (Inv : Nat → σ → Led → Prop) (ps : σ → List (Str × Value)) (c₀ : σ) (hh : A.handled = none)
    (hr : IsRange s.heap r a₀ b₀ 1 t₀ u₀ v₀) (hsmall : Builtin.Range.small a₀ b₀ 1 = true) (hsz : Builtin.Range.rangeSize a₀ b₀ 1 = (n : Int))
    (F : Fr h₀ env.locals s.heap m₀) (N : News h₀ env.locals s.heap news) (h0 : Inv 0 c₀ news) (hps : ∀ p ∈ ps c₀, m₀ p.1 = some p.2)
    (turn : ∀ (i : Nat) (t : Tok) c nx (u : Str → Option Value) h tk own, i < n → Inv i c nx → OwnOff own (nx.map (·.1)) → Fr h₀ env.locals h (kstB u (ps c)) → News h₀ env.locals h (nx ++ own) →
      wpAny (model prog w) A (assign (.Name x px) env (.int (a₀ + (i : Int)) t)) (fun _ s₃ => wpAny (model prog w) A (execs body env)
        (InvPostG h₀ env.locals (fun m' nx' => (∀ p ∈ ([] : Led), p ∈ nx') ∧ ∃ c', Inv (i + 1) c' nx' ∧ ∀ p ∈ ps c', m' p.1 = some p.2) own { s with heap := h, toks := tk } Q) E s₃) E { s with heap := h, toks := tk })
    (done : ∀ c nx (u : Str → Option Value) h tk, Inv n c nx → Fr h₀ env.locals h (kstB u (ps c)) → News h₀ env.locals h nx → Q .next { s with heap := h, toks := tk }) :
    wpAny (model prog w) A (pyIter (.ref r)) (fun it s₂ => TurnsAt prog w A h₀ env (.Name x px) body Q E it s₂) E s := by
  refine wpAny_pyIter_range hr hsmall ?_
  have W : Walks prog w A s.heap.objs.size [s.heap.objs.size] [s.heap.objs.size] n (fun i v => i < n ∧ ∃ t, v = .int (a₀ + i * 1) t)
      (fun i h => IsRangeIter h s.heap.objs.size (a₀ + (i : Nat) * 1) ((n : Int) - (i : Nat)) 1) := (Walks.range hh _ a₀ 1 n).bound
  have WT := KTurns.ofWalks (target := .Name x px) W (fun i v s Q E _ h => wpAny_pure h)
  refine my_loop [] Inv ps c₀ WT ?_ (by simp) ?_ ?_ (next_is_new F) (by show IsRangeIter _ _ _ _ _; rw [hsz]; simpa using Heap.get?_push_size _ rfl) (F.push _) (fun p hp => ⟨Heap.get?_push_of_some _ (N p hp).1, (N p hp).2⟩) ?_ (fun _ hp => nomatch hp) h0 hps ?_ ?_
  · intro b hb
    exact .inl (List.mem_singleton.mp hb)
  · intro i h hi
    exact ⟨_, hi⟩
  · intro hm
    exact absurd F.ns.lt ((List.mem_singleton.mp hm) ▸ Nat.lt_irrefl _)
  · intro p hp e
    exact absurd (Heap.lt_size (N p hp).1) (e ▸ Nat.lt_irrefl _)
  · rintro i v hp c nx u h tk own hi ⟨_, t, rfl⟩ hI _ hoff F₁ N₁
    have e1 : a₀ + (i : Int) * 1 = a₀ + (i : Int) := by omega
    rw [e1]
    exact turn i t c nx u h tk own hi hI hoff F₁ N₁
  · intro c nx u h tk hI _ F₁ N₁
    exact done c nx u h tk hI F₁ N₁
end
set_option maxHeartbeats 1000000
/-- what an object file says here -/
structure OD where
  rows : Nat
  body : Int
  ents : List (Bool × Int)
  cmds : List Int
inductive EntsAre (news : Led) : List Value → List (Bool × Int) → Prop
  | nil : EntsAre news [] []
  | cons {T : Addr} {tk tt : Tok} {b : Bool} {x : Int} {n : Nat} {vs : List Value} {es : List (Bool × Int)} : (T, ({ cls := .type "tuple", data := .seq #[.str (bif b then Str.ofString "code" else Str.ofString "data") tk, .int x tt] n } : Obj)) ∈ news → EntsAre news vs es → EntsAre news (.ref T :: vs) ((b, x) :: es)
noncomputable def CmdsAre (kvs : List (Str × Value)) (cs : List Int) : Prop :=
  (kvs = [] ∧ cs = []) ∨ (∃ a t, kvs = [(Str.ofString "P", .int a t)] ∧ cs = [a]) ∨ (∃ a t b u, kvs = [(Str.ofString "P", .int a t), (Str.ofString "Q", .int b u)] ∧ cs = [a, b])
    ∨ ∃ a t b u c v, kvs = [(Str.ofString "P", .int a t), (Str.ofString "Q", .int b u), (Str.ofString "R", .int c v)] ∧ cs = [a, b, c]
abbrev objDict (w : World) (t : Nat → Tok) (y : Nat → Value) (name : Str) (rl el cd : Addr) (body : Int) (tb : Tok) : Obj :=
  dictOf [ent w "name" (t 0) (.str name (t 13)), ent w "key" (t 1) (y 7), ent w "imports" (t 2) (y 0), ent w "rows" (t 3) (.ref rl), ent w "data_size" (t 4) (y 1), ent w "words" (t 5) (y 2), ent w "data_fixups" (t 6) (y 3), ent w "fixups" (t 7) (y 4),
    ent w "entries" (t 8) (.ref el), ent w "pointers" (t 9) (y 5), ent w "maps" (t 10) (y 6), ent w "commands" (t 11) (.ref cd), ent w "body" (t 12) (.int body tb)] 13
structure ObjIn (w : World) (news : Led) (x : Addr) (name : Str) (d : OD) (dx rl el cd : Addr) (t : Nat → Tok) (y : Nat → Value) (tb : Tok) (rvs evs : List Value) (rn en : Nat) (o : Obj) (kvs : List (Str × Value)) : Prop where
  inst : (x, instObj 428 dx) ∈ news
  dict : (dx, objDict w t y name rl el cd d.body tb) ∈ news
  rows : (rl, listOf rvs.toArray rn) ∈ news
  many : rvs.length = d.rows
  ents : (el, listOf evs.toArray en) ∈ news
  are : EntsAre news evs d.ents
  cmds : (cd, o) ∈ news
  low : (cd == sysModules) = false
  isd : o.IsDictOf (strKind PySem.Challenge.rw_nu0347_01.row.prog w) kvs
  kvs : CmdsAre kvs d.cmds
noncomputable def ObjAt (w : World) (news : Led) (x : Addr) (name : Str) (d : OD) : Prop := ∃ dx rl el cd t y tb rvs evs rn en o kvs, ObjIn w news x name d dx rl el cd t y tb rvs evs rn en o kvs
theorem EntsAre.mono {news news' : Led} (hs : ∀ p ∈ news, p ∈ news') : ∀ {vs : List Value} {es : List (Bool × Int)}, EntsAre news vs es → EntsAre news' vs es
  | _, _, .nil => .nil
  | _, _, .cons h r => .cons (hs _ h) (r.mono hs)
theorem EntsAre.get {news : Led} : ∀ {vs : List Value} {es : List (Bool × Int)}, EntsAre news vs es → ∀ {i : Nat} {v : Value}, vs[i]? = some v → ∃ T tk tt b x n, v = .ref T ∧ es[i]? = some (b, x) ∧ (T, ({ cls := .type "tuple", data := .seq #[.str (bif b then Str.ofString "code" else Str.ofString "data") tk, .int x tt] n } : Obj)) ∈ news
  | _, _, .nil, i, v, h => by simp at h
  | _, _, .cons (T := T) (tk := tk) (tt := tt) (b := b) (x := x) (n := n) h r, 0, v, hv => by
    simp at hv; subst hv
    exact ⟨T, tk, tt, b, x, n, rfl, rfl, h⟩
  | _, _, .cons h r, i + 1, v, hv => by
    simp at hv
    obtain ⟨T, tk, tt, b, x, n, h1, h2, h3⟩ := r.get hv
    exact ⟨T, tk, tt, b, x, n, h1, by simpa using h2, h3⟩
theorem EntsAre.length {news : Led} : ∀ {vs : List Value} {es : List (Bool × Int)}, EntsAre news vs es → vs.length = es.length
  | _, _, .nil => rfl
  | _, _, .cons _ r => by simp [r.length]
theorem EntsAre.refs {news : Led} {vs : List Value} {es : List (Bool × Int)} (h : EntsAre news vs es) : ∀ v ∈ vs, ∃ T, v = .ref T := by
  intro v hv
  obtain ⟨i, hi⟩ := List.getElem?_of_mem hv
  obtain ⟨T, _, _, _, _, _, e, _⟩ := h.get hi
  exact ⟨T, e⟩
/-- the entries' loop -/
noncomputable def entStep (row best : Int) (e : Bool × Int) : Int := if e.1 = true ∧ best < e.2 ∧ e.2 ≤ row then e.2 else best
theorem line_7 : True := by
  (k_with "m_for" => (k_here; (with_unfolding_all refine' For_turns (by assumption) ?_; k_whole)))
  (k_with "exec For Name Name cons nil" => walk_at "m_for")
  (k_with "exec For Name Attribute cons nil" => walk_at "m_for")
  (k_with "exec For Name Call cons nil" => walk_at "m_for")
  (k_with "exec For Name Subscript cons nil" => walk_at "m_for")
  (k_with "exec For Tuple Attribute cons nil" => walk_at "m_for")
  trivial
set_option maxHeartbeats 1000000
theorem strs_of_kvs {prog : Program} {w : World} : ∀ {vs : List Value} {kvs : List (Str × Value)}, vs.length = kvs.length → (∀ (j : Nat) (v : Value), vs[j]? = some v → ∃ k x, kvs[j]? = some (k, x) ∧ (PySem.strKind prog w).is k v = true) → StrsAre vs (kvs.map (·.1))
  | [], [], _, _ => .nil
  | [], _ :: _, h, _ => by simp at h
  | _ :: _, [], h, _ => by simp at h
  | v :: vs, (k, x) :: kvs, hl, h => by
    obtain ⟨k', x', h1, h2⟩ := h 0 v rfl
    simp only [List.getElem?_cons_zero, Option.some.injEq, Prod.mk.injEq] at h1
    obtain ⟨rfl, rfl⟩ := h1
    obtain ⟨t, rfl⟩ := Flat.str_inv (kdl_flat_str h2)
    refine .cons _ _ (strs_of_kvs (prog := prog) (w := w) (by simpa using hl) fun j v hv => ?_)
    obtain ⟨k'', x'', h3, h4⟩ := h (j + 1) v (by simpa using hv)
    exact ⟨k'', x'', by simpa using h3, h4⟩
theorem sorted_PQR {ss : List Str} (hs : sortedS ss = true) (hp : ss.Perm [Str.ofString "P", Str.ofString "Q", Str.ofString "R"]) : ss = [Str.ofString "P", Str.ofString "Q", Str.ofString "R"] := by
  have hl := hp.length_eq
  have hm : ∀ x ∈ ss, x = Str.ofString "P" ∨ x = Str.ofString "Q" ∨ x = Str.ofString "R" := fun x hx => by simpa using hp.mem_iff.mp hx
  have hn : ss.Nodup := hp.nodup_iff.mpr (by decide +kernel)
  match ss, hl with
  | [a, b, c], _ =>
    have ha := hm a (by simp)
    have hb := hm b (by simp)
    have hc := hm c (by simp)
    clear hm hp
    rcases ha with rfl | rfl | rfl <;> rcases hb with rfl | rfl | rfl <;> rcases hc with rfl | rfl | rfl <;> first | rfl | (exfalso; revert hs; decide +kernel) | (exfalso; revert hn; decide +kernel)
theorem sorted_PQ {ss : List Str} (hs : sortedS ss = true) (hp : ss.Perm [Str.ofString "P", Str.ofString "Q"]) : ss = [Str.ofString "P", Str.ofString "Q"] := by
  have hl := hp.length_eq
  have hm : ∀ x ∈ ss, x = Str.ofString "P" ∨ x = Str.ofString "Q" := fun x hx => by simpa using hp.mem_iff.mp hx
  have hn : ss.Nodup := hp.nodup_iff.mpr (by decide +kernel)
  match ss, hl with
  | [a, b], _ =>
    have ha := hm a (by simp)
    have hb := hm b (by simp)
    clear hm hp
    rcases ha with rfl | rfl <;> rcases hb with rfl | rfl <;> first | rfl | (exfalso; revert hs; decide +kernel) | (exfalso; revert hn; decide +kernel)
theorem sorted_cmds {w : World} {A : Around} {E : Value → Shared → Prop} {s : Shared} {h₀ : Heap} {L d : Addr} {m : Str → Option Value} {news : Led} {o : Obj} {kvs : List (Str × Value)} {cs : List Int} {Q : Value → Shared → Prop}
    (F : Fr h₀ L s.heap m) (N : News h₀ L s.heap news) (hh : A.handled = none) (hp : (d, o) ∈ news) (hD : o.IsDictOf (PySem.strKind PySem.Challenge.rw_nu0347_01.row.prog w) kvs) (lo : (d == sysModules) = false) (hk : CmdsAre kvs cs)
    (h : ∀ D h' tk vs e, Fr h₀ L h' m → News h₀ L h' ((D, listOf vs.toArray e) :: news) → (∀ q ∈ news, q.1 < D) → StrsAre vs (kvs.map (·.1)) → Q (.ref D) { s with heap := h', toks := tk }) :
    wpAny (model PySem.Challenge.rw_nu0347_01.row.prog w) A (call (.builtin "sorted") [.ref d]) Q E s := by
  obtain ⟨ep, hat⟩ := (kda_dict N hp hD).dictAt
  have h3 : kvs.length ≤ 3 := by
    rcases hk with ⟨rfl, _⟩ | ⟨_, _, rfl, _⟩ | ⟨_, _, _, _, rfl, _⟩ | ⟨_, _, _, _, _, _, rfl, _⟩ <;> simp
  refine kdu_sorted (kdl_dict (knd := PySem.strKind PySem.Challenge.rw_nu0347_01.row.prog w) (kvs := kvs) (ep := ep) lo) hh F N hat (kdl_size (by omega)) fun D h' tk vs F' N' l1 hl hv => ?_
  have hS : StrsAre vs (kvs.map (·.1)) := strs_of_kvs hl hv
  have hoD : h'.get? D = some (seqObj "list" vs.toArray 0) := (N' _ (.head _)).1
  have hDL : D ≠ L := (N' _ (.head _)).2.1
  have hD0 : h₀.get? D = none := (N' _ (.head _)).2.2
  refine wpAny_call_entry slot_list_sort ⟨_, hoD, rfl⟩ entry_list_sort (list_sort_treeK strKind_oneLt hoD hS.keysOf (fun v₁ v₂ rest e => keyKind_strs (by rw [← e]; exact hS)) (by omega) fun st' a1 a2 => ⟨_, rfl, ?_⟩) (args_list_sort _)
  obtain ⟨ss', b1, b2, b3⟩ := sorted_out_str hS a1 a2
  have hss : ss' = kvs.map (·.1) := by
    rcases hk with ⟨rfl, _⟩ | ⟨_, _, rfl, _⟩ | ⟨_, _, _, _, rfl, _⟩ | ⟨_, _, _, _, _, _, rfl, _⟩
    · simpa using b2
    · simpa using b2
    · exact sorted_PQ b3 b2
    · exact sorted_PQR b3 b2
  rw [hss] at b1
  obtain ⟨e, he⟩ := sortedHeap_at (out := (arrOf st').map (·.2)) hoD
  have hold : ∀ b x, b ≠ D → h'.get? b = some x → (sortedHeap h' D vs ((arrOf st').map (·.2))).get? b = some x := fun b x hb hx => (sortedHeap_old hb (Heap.lt_size hx)).trans hx
  refine h D _ tk ((arrOf st').map (·.2)).toList e ?_ ?_ l1 b1
  · obtain ⟨oL, a1, a2, hL, a3⟩ := F'.ns
    exact ⟨⟨oL, a1, a2, hold _ _ (Ne.symm hDL) hL, a3⟩, fun b x q => hold b x (fun z => by rw [z, hD0] at q; cases q) (F'.keep b x q), F'.above⟩
  · intro p hq
    rcases List.mem_cons.mp hq with rfl | hq
    · exact ⟨by dsimp only; rw [Array.toArray_toList]; exact he, hDL, hD0⟩
    · have z := N' p (.tail _ hq)
      exact ⟨hold _ _ (Nat.ne_of_lt (l1 p hq)) z.1, z.2⟩

noncomputable def cmdStep (row : Int) (s : Int × Str) (e : Str × Int) : Int × Str := if s.1 ≤ e.2 ∧ e.2 ≤ row then (e.2, e.1) else s
noncomputable def wordsOf (cs : List Int) : List (Str × Int) := [Str.ofString "P", Str.ofString "Q", Str.ofString "R"].zip cs
noncomputable def nearest (d : OD) (row : Int) : Str :=
  let b1 := d.ents.foldl (entStep row) (-1)
  ((wordsOf d.cmds).foldl (cmdStep row) (if b1 < d.body ∧ d.body ≤ row then (d.body, Str.ofString "body") else (b1, Str.ofString ""))).2
theorem CmdsAre.length {kvs : List (Str × Value)} {cs : List Int} (h : CmdsAre kvs cs) : kvs.length = (wordsOf cs).length := by
  rcases h with ⟨rfl, rfl⟩ | ⟨_, _, rfl, rfl⟩ | ⟨_, _, _, _, rfl, rfl⟩ | ⟨_, _, _, _, _, _, rfl, rfl⟩ <;> rfl
theorem CmdsAre.get {kvs : List (Str × Value)} {cs : List Int} (h : CmdsAre kvs cs) {i : Nat} {k : Str} {v : Value} (hi : kvs[i]? = some (k, v)) : ∃ c t, v = .int c t ∧ (wordsOf cs)[i]? = some (k, c) ∧ valueAt kvs k = some (.int c t) := by
  rcases h with ⟨rfl, rfl⟩ | ⟨a, t, rfl, rfl⟩ | ⟨a, t, b, u, rfl, rfl⟩ | ⟨a, t, b, u, c, x, rfl, rfl⟩
  · simp at hi
  · match i, hi with
    | 0, hi => simp at hi; obtain ⟨rfl, rfl⟩ := hi; exact ⟨a, t, rfl, rfl, rfl⟩
  · match i, hi with
    | 0, hi => simp at hi; obtain ⟨rfl, rfl⟩ := hi; exact ⟨a, t, rfl, rfl, rfl⟩
    | 1, hi => simp at hi; obtain ⟨rfl, rfl⟩ := hi; exact ⟨b, u, rfl, rfl, rfl⟩
  · match i, hi with
    | 0, hi => simp at hi; obtain ⟨rfl, rfl⟩ := hi; exact ⟨a, t, rfl, rfl, rfl⟩
    | 1, hi => simp at hi; obtain ⟨rfl, rfl⟩ := hi; exact ⟨b, u, rfl, rfl, rfl⟩
    | 2, hi => simp at hi; obtain ⟨rfl, rfl⟩ := hi; exact ⟨c, x, rfl, rfl, rfl⟩
theorem strs_len : ∀ {vs : List Value} {ss : List Str}, StrsAre vs ss → vs.length = ss.length
  | _, _, .nil => rfl
  | _, _, .cons _ _ r => by simp [strs_len r]
theorem strs_get : ∀ {vs : List Value} {ss : List Str}, StrsAre vs ss → ∀ {i : Nat} {v : Value}, vs[i]? = some v → ∃ x t, v = .str x t ∧ ss[i]? = some x
  | _, _, .nil, _, _, h => by simp at h
  | _, _, .cons x t _, 0, v, h => by simp at h; exact ⟨x, t, h.symm, rfl⟩
  | _, _, .cons _ _ r, i + 1, v, h => by
    obtain ⟨x, t, a, b⟩ := strs_get r (i := i) (v := v) (by simpa using h)
    exact ⟨x, t, a, by simpa using b⟩
theorem cmds_item {w : World} {A : Around} {E : Value → Shared → Prop} {s : Shared} {h₀ : Heap} {L d : Addr} {news : Led} {o : Obj} {kvs : List (Str × Value)} {k : Str} {tk : Tok} {v : Value} {value slice : PySem.Expr} {Q : Value → Shared → Prop} (N : News h₀ L s.heap news) (hp : (d, o) ∈ news)
    (hD : o.IsDictOf (PySem.strKind PySem.Challenge.rw_nu0347_01.row.prog w) kvs) (hl : valueAt kvs k = some v) (h : Q v { s with toks := s.toks + 1 })
    (hs : subscripted slice false (.ref d) (.str k tk) = operate [.ref d, .str k tk] (getItem (.ref d) (.str k tk)) := by with_unfolding_all rfl) (hg : ∀ r, letTemporaryGo value (.ref d) r = pure () := by intro _; with_unfolding_all rfl) :
    wpAny (model PySem.Challenge.rw_nu0347_01.row.prog w) A (subscriptTail value slice (.ref d) (.str k tk)) Q E s := kda_item N hp hD (strKind_is _ _ _ _) hl h hs hg
theorem line_8 : True := by
  (k_with "call builtin:sorted" => (k_here; k_dflt (refine' sorted_cmds ?q9F ?q9N ?q9hh ?q9hp ?q9hD ?q9lo ?q9hk ?_; (case q9F => k_asm); (case q9N => k_asm); (case q9hh => exact rfl); (case q9hp => k_mem); (case q9hD => k_asm); (case q9lo => k_asm); (case q9hk => k_asm)); intro _ _ _ _ _ _ _ _ _))
  (k_with "subscriptTail" => (k_here; (with_reducible show wpAny _ _ (subscriptTail _ _ (Value.ref _) (Value.str _ _)) _ _ _); k_dflt (refine' cmds_item ?q9N ?q9hp ?q9hD ?q9hl ?_ ?q9hs ?q9hg; (case q9N => k_asm); (case q9hp => k_mem); (case q9hD => k_asm); (case q9hl => k_asm); (case q9hs => with_unfolding_all rfl); (case q9hg => (intro _; with_unfolding_all rfl)))))
  trivial
set_option maxHeartbeats 1000000
abbrev Try := Int × Int × Str × Str
abbrev tryObj (e : Try) (t0 t1 t2 t3 : Tok) (n : Nat) : Obj := { cls := .type "tuple", data := .seq #[.int e.1 t0, .int e.2.1 t1, .str e.2.2.1 t2, .str e.2.2.2 t3] n }
noncomputable def gtS (x y : Str) : Bool := decide (y.cps.toList < x.cps.toList)
noncomputable def gtT (x y : Try) : Bool :=
  if x.1 ≠ y.1 then decide (x.1 > y.1) else if x.2.1 ≠ y.2.1 then decide (x.2.1 > y.2.1) else if x.2.2.1 ≠ y.2.2.1 then gtS x.2.2.1 y.2.2.1 else if x.2.2.2 ≠ y.2.2.2 then gtS x.2.2.2 y.2.2.2 else false

section
variable {prog : Program} {w : World} {A : Around} {E : Value → Shared → Prop} {s : Shared}
theorem isSub_tup : isSubtype (.type "tuple") (.type "tuple") = pure true := AutoSeq1.sub_tuple_tuple
/-- the loop of a tuple's >: the first pair that differs tells -/
theorem tuple_gt_tree {a b : Addr} {oa ob : Obj} {xs ys : List Value} {na nb : Nat} {P : PySem.Fin → Shared → Prop} (hoa : s.heap.get? a = some oa) (hda : oa.data = .seq xs.toArray na) (hob : s.heap.get? b = some ob) (hcb : ob.cls = .type "tuple") (hdb : ob.data = .seq ys.toArray nb)
    (I : List (Value × Value) → Prop) (hI : I (xs.zip ys))
    (turn : ∀ p q r, I ((p, q) :: r) → wpAny (model prog w) A (eqBool p q) (fun e s' => s' = s ∧ (if e = true then I r else wpAny (model prog w) A (richCompare .Gt p q) (fun v s'' => P (.done (.ret v)) s'') E s)) E s)
    (fin : I [] → P (.done (.ret (Builtin.Tuple.tupleCompareSizes .Gt xs.length ys.length))) s) :
    wpAny (model prog w) A (Builtin.«tuple.__gt__» ⟨[.ref a, .ref b], []⟩) P E s := by
  have hTb : s.TypeIs (.ref b) "tuple" := ⟨ob, hob, hcb⟩
  show wpAny _ _ (isInstance (.ref b) (.type "tuple") >>= _) _ _ s
  refine wpAny_bind (wpAny_isInstance hTb isSub_tup ?_)
  simp only [Bool.not_true, Bool.false_eq_true, if_false]
  refine wpAny_bind (wpAny_tupleItemsOf hoa hda ?_)
  refine wpAny_bind (wpAny_tupleItemsOf hob hdb ?_)
  refine wpAny_bind ?_
  refine wpAny_forIn_list _ (fun rest r s' => r.1 = none ∧ s' = s ∧ I rest) _ ?_ ?_ _ _ ⟨rfl, rfl, by simpa using hI⟩
  · rintro ⟨p, q⟩ rest r s' ⟨hr, rfl, hI'⟩
    refine wpAny_bind (wpAny_mono (turn p q rest hI') (fun e s₂ z => ?_) fun _ _ e => e)
    obtain ⟨rfl, z⟩ := z
    cases e with
    | true =>
      simp only [if_true] at z
      simp only [Bool.not_true, Bool.false_eq_true, if_false]
      exact wpAny_pure ⟨rfl, rfl, z⟩
    | false =>
      simp only [Bool.false_eq_true, if_false] at z
      simp only [Bool.not_false, if_true]
      refine wpAny_bind (wpAny_rule ?_)
      refine wpAny_bind (wpAny_mono z (fun v s₃ y => ?_) fun _ _ e => e)
      exact wpAny_bind (wpAny_pure (wpAny_pure (wpAny_pure y)))
  · rintro ⟨r1, r2⟩ s' ⟨hr, rfl, hI'⟩
    simp only at hr
    subst hr
    refine wpAny_pure ?_
    have := fin hI'
    simpa using this

theorem gt_tries {h₀ : Heap} {L a b : Addr} {news : Led} {x y : Try} {t0 t1 t2 t3 u0 u1 u2 u3 : Tok} {n k : Nat} {Q : Value → Shared → Prop} (N : News h₀ L s.heap news) (ha : (a, tryObj x t0 t1 t2 t3 n) ∈ news) (hb : (b, tryObj y u0 u1 u2 u3 k) ∈ news) (hu : A.units + 64 < cLine)
    (h : Q (.bool (gtT x y)) s) : wpAny (model prog w) A (compareOp .Gt (.ref a) (.ref b)) Q E s := by
  refine cmp_ofGt ?_
  have hoa := (N _ ha).1
  have hob := (N _ hb).1
  refine wpAny_richCompare_same_room (op := .Gt) ⟨_, hoa, rfl⟩ ⟨_, hob, rfl⟩ F.slot_tuple_gt (wpAny_call_entry F.slot_tuple_gt ⟨_, hoa, rfl⟩ F.entry_tuple_gt ?_ (F.args_tuple_gt_2 _ _)) (by omega)
  obtain ⟨x1, x2, x3, x4⟩ := x
  obtain ⟨y1, y2, y3, y4⟩ := y
  let I : List (Value × Value) → Prop := fun l =>
    (l = [(.int x1 t0, .int y1 u0), (.int x2 t1, .int y2 u1), (.str x3 t2, .str y3 u2), (.str x4 t3, .str y4 u3)]) ∨
    (x1 = y1 ∧ l = [(.int x2 t1, .int y2 u1), (.str x3 t2, .str y3 u2), (.str x4 t3, .str y4 u3)]) ∨
    (x1 = y1 ∧ x2 = y2 ∧ l = [(.str x3 t2, .str y3 u2), (.str x4 t3, .str y4 u3)]) ∨
    (x1 = y1 ∧ x2 = y2 ∧ x3 = y3 ∧ l = [(.str x4 t3, .str y4 u3)]) ∨
    (x1 = y1 ∧ x2 = y2 ∧ x3 = y3 ∧ x4 = y4 ∧ l = [])
  have nn : ∀ c : Bool, Value.bool c ≠ .notImplemented := fun c e => nomatch e
  refine tuple_gt_tree (xs := [.int x1 t0, .int x2 t1, .str x3 t2, .str x4 t3]) (ys := [.int y1 u0, .int y2 u1, .str y3 u2, .str y4 u3]) hoa rfl hob rfl rfl I (.inl rfl) ?_ ?_
  · intro p q r hI
    rcases hI with hI | ⟨e1, hI⟩ | ⟨e1, e2, hI⟩ | ⟨e1, e2, e3, hI⟩ | ⟨_, _, _, _, hI⟩
    · simp only [List.cons.injEq, Prod.mk.injEq] at hI
      obtain ⟨⟨rfl, rfl⟩, rfl⟩ := hI
      refine wpAny_eqBool_int ⟨rfl, ?_⟩
      by_cases e : x1 = y1
      · subst e; simp only [BEq.rfl, if_true]; exact .inr (.inl ⟨rfl, rfl⟩)
      · simp only [beq_iff_eq, e, if_false]
        exact gt_int ⟨_, rfl, nn _, by simpa [gtT, e] using h⟩
    · simp only [List.cons.injEq, Prod.mk.injEq] at hI
      obtain ⟨⟨rfl, rfl⟩, rfl⟩ := hI
      refine wpAny_eqBool_int ⟨rfl, ?_⟩
      by_cases e : x2 = y2
      · subst e; simp only [BEq.rfl, if_true]; exact .inr (.inr (.inl ⟨e1, rfl, rfl⟩))
      · simp only [beq_iff_eq, e, if_false]
        exact gt_int ⟨_, rfl, nn _, by simpa [gtT, e, e1] using h⟩
    · simp only [List.cons.injEq, Prod.mk.injEq] at hI
      obtain ⟨⟨rfl, rfl⟩, rfl⟩ := hI
      refine eqBool_str ⟨rfl, ?_⟩
      by_cases e : x3 = y3
      · subst e; simp only [BEq.rfl, if_true]; exact .inr (.inr (.inr (.inl ⟨e1, e2, rfl, rfl⟩)))
      · simp only [beq_iff_eq, e, if_false]
        exact P.gt_str ⟨_, rfl, nn _, by simpa [gtT, gtS, e, e1, e2] using h⟩
    · simp only [List.cons.injEq, Prod.mk.injEq] at hI
      obtain ⟨⟨rfl, rfl⟩, rfl⟩ := hI
      refine eqBool_str ⟨rfl, ?_⟩
      by_cases e : x4 = y4
      · subst e; simp only [BEq.rfl, if_true]; exact .inr (.inr (.inr (.inr ⟨e1, e2, e3, rfl, rfl⟩)))
      · simp only [beq_iff_eq, e, if_false]
        exact P.gt_str ⟨_, rfl, nn _, by simpa [gtT, gtS, e, e1, e2, e3] using h⟩
    · cases hI
  · intro hI
    rcases hI with hI | ⟨e1, hI⟩ | ⟨e1, e2, hI⟩ | ⟨e1, e2, e3, hI⟩ | ⟨e1, e2, e3, e4, _⟩
    · cases hI
    · cases hI
    · cases hI
    · cases hI
    · refine ⟨_, rfl, nn _, ?_⟩
      simpa [gtT, e1, e2, e3, e4, Builtin.Tuple.tupleCompareSizes] using h
end

section
variable {prog : Program} {w : World} {A : Around} {E : Value → Shared → Prop} {s : Shared} {env : Env} {h₀ : Heap} {body : List Stmt} {Q : Flow → Shared → Prop} {σ : Type}
/-- over a dict's keys -/
theorem my_dict {d : Addr} {o : Obj} {kvs : List (Str × Value)} {m₀ : Str → Option Value} {news : Led} {x : Str} {px : Pos} (Inv : Nat → σ → Led → Prop) (ps : σ → List (Str × Value)) (c₀ : σ) (hh : A.handled = none) (hl : (d, o) ∈ news)
    (hD : o.IsDictOf (PySem.strKind prog w) kvs) (lo : (d == sysModules) = false)
    (F : Fr h₀ env.locals s.heap m₀) (N : News h₀ env.locals s.heap news) (h0 : Inv 0 c₀ news) (hps : ∀ p ∈ ps c₀, m₀ p.1 = some p.2)
    (turn : ∀ i k v t c nx (u : Str → Option Value) h tk own, kvs[i]? = some (k, v) → Inv i c nx → (d, o) ∈ nx → OwnOff own (nx.map (·.1)) → Fr h₀ env.locals h (kstB u (ps c)) → News h₀ env.locals h (nx ++ own) →
      wpAny (model prog w) A (assign (.Name x px) env (.str k t)) (fun _ s₃ => wpAny (model prog w) A (execs body env)
        (InvPostG h₀ env.locals (fun m' nx' => (∀ p ∈ [(d, o)], p ∈ nx') ∧ ∃ c', Inv (i + 1) c' nx' ∧ ∀ p ∈ ps c', m' p.1 = some p.2) own { s with heap := h, toks := tk } Q) E s₃) E { s with heap := h, toks := tk })
    (done : ∀ c nx (u : Str → Option Value) h tk, Inv kvs.length c nx → (d, o) ∈ nx → Fr h₀ env.locals h (kstB u (ps c)) → News h₀ env.locals h nx → Q .next { s with heap := h, toks := tk }) :
    wpAny (model prog w) A (pyIter (.ref d)) (fun it s₂ => TurnsAt prog w A h₀ env (.Name x px) body Q E it s₂) E s := by
  obtain ⟨ep, hat⟩ := (kda_dict N hl hD).dictAt
  have hod : s.heap.get? d = some o := (N _ hl).1
  have hne : d ≠ s.heap.objs.size := Nat.ne_of_lt (Heap.lt_size hod)
  refine wpAny_pyIter_dict lo hat ?_
  have W := Walks.dictKeys (prog := prog) (w := w) (knd := PySem.strKind prog w) hh s.heap.objs.size d hne kvs ep
  have WT := KTurns.ofWalks (target := .Name x px) W (fun i v s Q E _ h => wpAny_pure h)
  refine my_loop [(d, o)] Inv ps c₀ WT ?_ (by simp) ?_ ?_ (next_is_new F) ⟨⟨_, Heap.get?_push_size _ rfl, rfl, rfl⟩, hat.push _⟩ (F.push _) (fun p hp => ⟨Heap.get?_push_of_some _ (N p hp).1, (N p hp).2⟩) ?_ ?_ h0 hps ?_ ?_
  · intro b hb
    rcases List.mem_cons.mp hb with e | hb
    · exact .inl e
    · exact .inr (by simpa using hb)
  · rintro i h ⟨⟨o, ho, _⟩, _⟩
    exact ⟨o, ho⟩
  · intro hm
    rcases List.mem_cons.mp hm with e | hm
    · exact absurd F.ns.lt (e ▸ Nat.lt_irrefl _)
    · exact (N _ hl).2.1 ((List.mem_singleton.mp hm).symm)
  · intro p hp e
    exact absurd (Heap.lt_size (N p hp).1) (e ▸ Nat.lt_irrefl _)
  · intro p hp
    rw [List.mem_singleton.mp hp]; exact hl
  · rintro i v hp c nx u h tk own _ ⟨k, x', hk, hv⟩ hI hfx hoff F₁ N₁
    obtain ⟨t, rfl⟩ := Flat.str_inv (kdl_flat_str hv)
    exact turn i k x' t c nx u h tk own hk hI (hfx _ (List.mem_singleton.mpr rfl)) hoff F₁ N₁
  · intro c nx u h tk hI hfx F₁ N₁
    exact done c nx u h tk hI (hfx _ (List.mem_singleton.mpr rfl)) F₁ N₁
end
inductive TriesAre (news : Led) : List Value → List Try → Prop
  | nil : TriesAre news [] []
  | cons {T : Addr} {e : Try} {t0 t1 t2 t3 : Tok} {n : Nat} {vs : List Value} {es : List Try} : (T, tryObj e t0 t1 t2 t3 n) ∈ news → TriesAre news vs es → TriesAre news (.ref T :: vs) (e :: es)
theorem TriesAre.mono {news news' : Led} (hs : ∀ p ∈ news, p ∈ news') : ∀ {vs : List Value} {es : List Try}, TriesAre news vs es → TriesAre news' vs es
  | _, _, .nil => .nil
  | _, _, .cons h r => .cons (hs _ h) (r.mono hs)
theorem TriesAre.snoc {news : Led} {T : Addr} {e : Try} {t0 t1 t2 t3 : Tok} {n : Nat} (h : (T, tryObj e t0 t1 t2 t3 n) ∈ news) : ∀ {vs : List Value} {es : List Try}, TriesAre news vs es → TriesAre news (vs ++ [.ref T]) (es ++ [e])
  | _, _, .nil => .cons h .nil
  | _, _, .cons h' r => .cons h' (TriesAre.snoc h r)
theorem TriesAre.length {news : Led} : ∀ {vs : List Value} {es : List Try}, TriesAre news vs es → vs.length = es.length
  | _, _, .nil => rfl
  | _, _, .cons _ r => by simp [r.length]
theorem TriesAre.get {news : Led} : ∀ {vs : List Value} {es : List Try}, TriesAre news vs es → ∀ {i : Nat} {v : Value}, vs[i]? = some v → ∃ T e t0 t1 t2 t3 n, v = .ref T ∧ es[i]? = some e ∧ (T, tryObj e t0 t1 t2 t3 n) ∈ news
  | _, _, .nil, i, v, h => by simp at h
  | _, _, .cons (T := T) (e := e) (t0 := t0) (t1 := t1) (t2 := t2) (t3 := t3) (n := n) h r, 0, v, hv => by
    simp at hv; subst hv
    exact ⟨T, e, t0, t1, t2, t3, n, rfl, rfl, h⟩
  | _, _, .cons h r, i + 1, v, hv => by
    simp at hv
    obtain ⟨T, e, t0, t1, t2, t3, n, h1, h2, h3⟩ := r.get hv
    exact ⟨T, e, t0, t1, t2, t3, n, h1, by simpa using h2, h3⟩
noncomputable def tryStep (at' : Int) (best e : Try) : Try := if e.1 ≤ at' ∧ gtT e best = true then e else best
noncomputable def entTries (es : List (Bool × Int)) : List Try := (es.filter (·.1)).map fun e => (e.2, 1, Str.ofString "", Str.ofString "")
noncomputable def cmdTries (cs : List (Str × Int)) : List Try := cs.map fun e => (e.2, 2, e.1, e.1)
noncomputable def lawName (d : OD) (at' : Int) : Str := ((((d.body, 0, Str.ofString "", Str.ofString "body") :: entTries d.ents) ++ cmdTries (wordsOf d.cmds)).foldl (tryStep at') ((-1, 0, Str.ofString "", Str.ofString "") : Try)).2.2.2
theorem append_end {h₀ : Heap} {L : Addr} {h' : Heap} {m' : Str → Option Value} {own tups rest0 R : Led} {TL T' : Addr} {ol ol' ot : Obj} {s₁ : Shared} {tk : Nat} {J : (Str → Option Value) → Led → Prop}
    (F : Fr h₀ L h' m') (N : News h₀ L h' ((T', ot) :: (TL, ol') :: R)) (hs1 : ∀ p ∈ tups ++ rest0, p ∈ R) (hs2 : ∀ p ∈ own, p ∈ R) (hlt : TL < T' ∧ AllLt T' R) (hoff : OwnOff own (((TL, ol) :: (tups ++ rest0)).map (·.1)))
    (hJ : J m' ((TL, ol') :: (((T', ot) :: tups) ++ rest0))) : InvEndG h₀ L J own s₁ { s₁ with heap := h', toks := tk } := by
  refine InvEndG.intro F N hJ ?_ ?_ ?_
  · intro p hp b hb
    rcases List.mem_cons.mp hb with rfl | hb
    · exact hoff p hp _ (.head _)
    · rcases List.mem_cons.mp hb with rfl | hb
      · exact Nat.ne_of_lt (tb_ltOf hlt.2 p (hs2 p hp))
      · exact hoff p hp b (.tail _ hb)
  · intro p hp
    rcases List.mem_cons.mp hp with rfl | hp
    · exact .tail _ (.head _)
    · rcases List.mem_cons.mp hp with rfl | hp
      · exact .head _
      · exact .tail _ (.tail _ (hs1 p hp))
  · exact fun p hp => .tail _ (.tail _ (hs2 p hp))
theorem same_end {h₀ : Heap} {L : Addr} {h' : Heap} {m' : Str → Option Value} {own tups rest0 R : Led} {TL : Addr} {ol : Obj} {s₁ : Shared} {tk : Nat} {J : (Str → Option Value) → Led → Prop}
    (F : Fr h₀ L h' m') (N : News h₀ L h' ((TL, ol) :: R)) (hs1 : ∀ p ∈ tups ++ rest0, p ∈ R) (hs2 : ∀ p ∈ own, p ∈ R) (hoff : OwnOff own (((TL, ol) :: (tups ++ rest0)).map (·.1)))
    (hJ : J m' ((TL, ol) :: (tups ++ rest0))) : InvEndG h₀ L J own s₁ { s₁ with heap := h', toks := tk } := by
  refine InvEndG.intro F N hJ hoff ?_ ?_
  · intro p hp
    rcases List.mem_cons.mp hp with rfl | hp
    · exact .head _
    · exact .tail _ (hs1 p hp)
  · exact fun p hp => .tail _ (hs2 p hp)
theorem off_cons {l : Led} {TL T' : Addr} {ot : Obj} (h : OwnOff l [TL]) (hlt : TL < T') : OwnOff ((T', ot) :: l) [TL] := by
  refine off_one fun p hp => ?_
  rcases List.mem_cons.mp hp with rfl | hp
  · exact fun e => Nat.ne_of_lt hlt e.symm
  · exact h p hp TL (.head _)
theorem kind_code {b : Bool} (h : ((bif b then Str.ofString "code" else Str.ofString "data") == Str.ofString "code") = true) : b = true := by
  cases b
  · exact absurd h (by decide +kernel)
  · rfl
theorem kind_data' {b : Bool} (h : ((bif b then Str.ofString "code" else Str.ofString "data") == Str.ofString "code") = false) : b = false := by
  cases b
  · rfl
  · exact absurd h (by decide +kernel)
theorem size3 {n k : Nat} (h : n ≤ k) (hk : k ≤ 16777216) : n ≤ sizeLine := by rw [sizeLine_eq]; omega
theorem line_9 : True := by
  (k_with "compareOp Gt ref ref" => (k_here; (with_reducible show wpAny _ _ (compareOp CmpOp.Gt (Value.ref _) (Value.ref _)) _ _ _); k_dflt (refine' gt_tries ?q9N ?q9a ?q9b ?q9u ?_; (case q9N => k_asm); (case q9a => k_mem); (case q9b => k_mem); (case q9u => exact Nat.le_of_ble_eq_true rfl))))
  trivial
set_option maxHeartbeats 1000000
theorem ObjIn.mono {w : World} {news news' : Led} {x : Addr} {name : Str} {d : OD} {dx rl el cd : Addr} {t : Nat → Tok} {y : Nat → Value} {tb : Tok} {rvs evs : List Value} {rn en : Nat} {o : Obj} {kvs : List (Str × Value)} (h : ObjIn w news x name d dx rl el cd t y tb rvs evs rn en o kvs) (hs : ∀ p ∈ news, p ∈ news') :
    ObjIn w news' x name d dx rl el cd t y tb rvs evs rn en o kvs :=
  ⟨hs _ h.inst, hs _ h.dict, hs _ h.rows, h.many, hs _ h.ents, h.are.mono hs, hs _ h.cmds, h.low, h.isd, h.kvs⟩
theorem ObjAt.mono {w : World} {news news' : Led} {x : Addr} {name : Str} {d : OD} (hs : ∀ p ∈ news, p ∈ news') : ObjAt w news x name d → ObjAt w news' x name d
  | ⟨dx, rl, el, cd, t, y, tb, rvs, evs, rn, en, o, kvs, h⟩ => ⟨dx, rl, el, cd, t, y, tb, rvs, evs, rn, en, o, kvs, h.mono hs⟩
/-- a loaded module -/
structure MD where
  name : Str
  base : Int
  d : OD
abbrev loadDict (w : World) (t : Nat → Tok) (y : Nat → Value) (name : Str) (base : Int) (ob : Addr) : Obj :=
  dictOf [ent w "name" (t 0) (.str name (t 6)), ent w "key" (t 1) (y 0), ent w "code_base" (t 2) (.int base (t 7)), ent w "data_base" (t 3) (y 1), ent w "object" (t 4) (.ref ob), ent w "clients" (t 5) (y 2)] 6
structure OD.Ok (d : OD) : Prop where
  rows : d.rows ≤ 12
  body : 0 ≤ d.body
  ents : ∀ e ∈ d.ents, 0 ≤ e.2
  few : d.ents.length ≤ 3
  cmds : ∀ c ∈ d.cmds, 0 ≤ c
noncomputable def LoadAt (w : World) (news : Led) (l : Addr) (m : MD) : Prop := ∃ ld ob t y, (l, instObj 73 ld) ∈ news ∧ (ld, loadDict w t y m.name m.base ob) ∈ news ∧ ObjAt w news ob m.name m.d ∧ m.d.Ok
theorem LoadAt.mono {w : World} {news news' : Led} {l : Addr} {m : MD} (hs : ∀ p ∈ news, p ∈ news') : LoadAt w news l m → LoadAt w news' l m
  | ⟨ld, ob, t, y, h1, h2, h3, h4⟩ => ⟨ld, ob, t, y, hs _ h1, hs _ h2, h3.mono hs, h4⟩
inductive ModsAre (w : World) (news : Led) : List Value → List MD → Prop
  | nil : ModsAre w news [] []
  | cons {l : Addr} {m : MD} {vs : List Value} {ms : List MD} : LoadAt w news l m → ModsAre w news vs ms → ModsAre w news (.ref l :: vs) (m :: ms)
theorem ModsAre.mono {w : World} {news news' : Led} (hs : ∀ p ∈ news, p ∈ news') : ∀ {vs : List Value} {ms : List MD}, ModsAre w news vs ms → ModsAre w news' vs ms
  | _, _, .nil => .nil
  | _, _, .cons h r => .cons (h.mono hs) (r.mono hs)
theorem ModsAre.snoc {w : World} {news : Led} {l : Addr} {m : MD} (h : LoadAt w news l m) : ∀ {vs : List Value} {ms : List MD}, ModsAre w news vs ms → ModsAre w news (vs ++ [.ref l]) (ms ++ [m])
  | _, _, .nil => .cons h .nil
  | _, _, .cons h' r => .cons h' (ModsAre.snoc h r)
theorem ModsAre.length {w : World} {news : Led} : ∀ {vs : List Value} {ms : List MD}, ModsAre w news vs ms → vs.length = ms.length
  | _, _, .nil => rfl
  | _, _, .cons _ r => by simp [r.length]
theorem ModsAre.get {w : World} {news : Led} : ∀ {vs : List Value} {ms : List MD}, ModsAre w news vs ms → ∀ {i : Nat} {v : Value}, vs[i]? = some v → ∃ l m, v = .ref l ∧ ms[i]? = some m ∧ LoadAt w news l m
  | _, _, .nil, i, v, h => by simp at h
  | _, _, .cons (l := l) (m := m) h r, 0, v, hv => by
    simp at hv; subst hv
    exact ⟨l, m, rfl, rfl, h⟩
  | _, _, .cons h r, i + 1, v, hv => by
    simp at hv
    obtain ⟨l, m, h1, h2, h3⟩ := r.get hv
    exact ⟨l, m, h1, by simpa using h2, h3⟩
noncomputable def inMod (row : Int) (m : MD) : Bool := decide (m.base ≤ row ∧ row < m.base + (m.d.rows : Int))
noncomputable def findMod (ms : List MD) (row : Int) : Option MD := ms.find? (inMod row)
theorem find_none_of {ms : List MD} {row : Int} {i : Nat} (h : ∀ m ∈ ms.take i, inMod row m = false) (hi : ms.length ≤ i) : findMod ms row = none := by
  rw [List.take_of_length_le hi] at h
  exact List.find?_eq_none.mpr (by simpa using h)
theorem find_some_of {ms : List MD} {row : Int} {i : Nat} {m : MD} (h : ∀ m ∈ ms.take i, inMod row m = false) (hm : ms[i]? = some m) (hin : inMod row m = true) : findMod ms row = some m := by
  have e : ms = ms.take i ++ m :: ms.drop (i + 1) := by
    have hi : i < ms.length := (List.getElem?_eq_some_iff.mp hm).1
    have := List.take_append_drop i ms
    rw [List.drop_eq_getElem_cons hi, (List.getElem?_eq_some_iff.mp hm).2] at this
    exact this.symm
  unfold findMod
  rw [e, List.find?_append, List.find?_eq_none.mpr (by simpa using h)]
  simp [hin]
theorem none_step {ms : List MD} {row : Int} {i : Nat} {m : MD} (h : ∀ m ∈ ms.take i, inMod row m = false) (hm : ms[i]? = some m) (hin : inMod row m = false) : ∀ m ∈ ms.take (i + 1), inMod row m = false := by
  intro x hx
  rw [List.take_add_one, hm] at hx
  rcases List.mem_append.mp hx with hx | hx
  · exact h x hx
  · simp at hx; rw [hx]; exact hin
abbrev machDict (w : World) (t : Nat → Tok) (y : Nat → Value) (mem cpu ll : Addr) : Obj :=
  dictOf [ent w "data_top" (t 0) (y 0), ent w "data_limit" (t 1) (y 1), ent w "stack_low" (t 2) (.int 208 (t 11)), ent w "memory" (t 3) (.ref mem), ent w "heap" (t 4) (y 2), ent w "cpu" (t 5) (.ref cpu), ent w "loaded" (t 6) (.ref ll),
    ent w "out" (t 7) (y 3), ent w "given" (t 8) (y 4), ent w "limit" (t 9) (y 5), ent w "steps" (t 10) (y 6)] 11
theorem len_mem {prog : Program} {w : World} {A : Around} {E : Value → Shared → Prop} {s : Shared} {h₀ : Heap} {L l : Addr} {news : Led} {vs : List Value} {n k : Nat} {Q : Value → Shared → Prop} (N : News h₀ L s.heap news) (hp : (l, listOf vs.toArray n) ∈ news) (hk : vs.length = k) (hz : k ≤ 1000000)
    (h : Q (.int (k : Int) (s.toks + 1)) { s with toks := s.toks + 1 + 1 }) : wpAny (model prog w) A (call (.builtin "len") [.ref l]) Q E s := by
  refine call_len_list (items := vs.toArray) ⟨_, (N _ hp).1, rfl, n, rfl⟩ (by rw [List.size_toArray, hk]; omega) ?_
  rw [List.size_toArray, hk]; exact h
theorem line_10 : True := by
  (k_with "call builtin:len" => (k_here; (with_reducible show wpAny _ _ (call (Value.builtin "len") [Value.ref _]) _ _ _); k_dflt (refine' len_mem ?q9N ?q9hp ?q9hk ?q9hz ?_; (case q9N => k_asm); (case q9hp => k_mem); (case q9hk => k_asm); (case q9hz => omega))))
  trivial
set_option maxHeartbeats 400000
theorem fill_CA : (fun (_ : OpenLaw) (_ : Params → Frag) => True) PySem.Challenge.rw_nu0347_01 hd.heap_1 := by
  w_top off
  k_fill
  trivial
theorem objf_spec (w : World) (name : Str) (tn tk0 : Tok) (news : Led) :
    Call 400 4000 w 428 [.str name tn, .int 1 tk0] news (fun r news' => ∃ x dx rl el cd t y tb o, r = .ref x ∧ news' = (el, listOf #[] 0) :: (cd, o) :: (x, instObj 428 dx) :: (dx, objDict w t y name rl el cd 0 tb) :: news ∧ (cd == sysModules) = false ∧ o.IsDictOf (PySem.strKind PySem.Challenge.rw_nu0347_01.row.prog w) [] ∧
      (∀ q ∈ news, q.1 < dx) ∧ dx < x ∧ x < el ∧ el < cd) := by
  unfold Call
  intro mean mg mb gd cn cs a ccd cl outer A₀ base h₀ L m s Q E B F X N T hk hret
  walk_at "m_cls"
  k_steps
  rename_i xx dx _ _ _ q1 q2 _ _ _ _ _ _ _ _ _ _ _ _ _ _ _ rl _ _ _ _ _ _ _ _ _ _ _ _ _ _ _ _ _ _ _ _ el _ q3 _ _ _ _ _ _ _ _ _ _ _ _ _ _ _ _ cd _ oc lo hs _ _ _ q4 _ _ _ _ _ kN _ _
  refine' hret _ _ _ _ ⟨xx, dx, rl, el, cd, (fun i => [_, _, _, _, _, _, _, _, _, _, _, _, _, _].getD i 0), (fun i => [_, _, _, _, _, _, _, _].getD i .none), _, oc, rfl, rfl, lo, hs, q1, q2, ?g1, ?g2⟩ (by assumption) (News.sub kN ?sub)
  case g1 => exact q3.2.2.2.2.2.1
  case g2 => exact q4.2.2.1
  case sub =>
    intro p hp
    rcases List.mem_cons.mp hp with rfl | hp
    · k_mem
    rcases List.mem_cons.mp hp with rfl | hp
    · k_mem
    rcases List.mem_cons.mp hp with rfl | hp
    · k_mem
    rcases List.mem_cons.mp hp with e | hp
    · rw [e]
      iterate 10 (refine List.mem_cons_of_mem _ ?_)
      exact List.mem_cons_self
    · iterate 11 (refine List.mem_cons_of_mem _ ?_)
      exact hp
theorem use_objf {dp' un' : Nat} {mean : ExcName → Option Value} {mg mb : Str → Option Value} {gd : Option (List Code)} {cn : Str} {cs : Scope} {a0 : Addr} {ccd : Value} {cl : List (Str × Addr)} {outer : List Env} {A₀ : Around} {base0 h₀ : Heap} {L0 : Addr} {m0 : Str → Option Value} {s : Shared} {Q E0 : Value → Shared → Prop} (w : World) (name : Str) (tn tk0 : Tok) (news : Led)
    (B : Below A₀ base0 outer h₀) (F : Fr h₀ L0 s.heap m0) (X : (hd.heap_1 w.params).In h₀) (N : News h₀ L0 s.heap news) (T : Top hd.view_1 (looseW hd.view_1 []) mean mg mb h₀) (hk : cs.kind = .function) (hd' : dp' ≤ 400) (hu : un' ≤ 4000)
    (k0 : ∀ h' tk', Fr h₀ L0 h' m0 → ∀ x dx rl el cd t y tb o, (cd == sysModules) = false → o.IsDictOf (PySem.strKind PySem.Challenge.rw_nu0347_01.row.prog w) [] → News h₀ L0 h' ((el, listOf #[] 0) :: (cd, o) :: (x, instObj 428 dx) :: (dx, objDict w t y name rl el cd 0 tb) :: news) → (∀ q ∈ news, q.1 < dx) → @LT.lt Nat _ dx x → @LT.lt Nat _ x el → @LT.lt Nat _ el cd → Q (.ref x) { s with heap := h', toks := tk' }) :
    wpAny (model PySem.Challenge.rw_nu0347_01.row.prog w) (ktrTop dp' un' gd cn cs L0 a0 ccd cl outer) (call (.ref 428) [.str name tn, .int 1 tk0]) Q E0 s :=
  Call.use B F X N T hk (objf_spec w name tn tk0 news) hd' hu fun r news' h' tk' hp F' N' => by
    obtain ⟨x, dx, rl, el, cd, t, y, tb, o, rfl, rfl, lo, hs, q1, q2, q3, q4⟩ := hp
    exact k0 _ _ F' x dx rl el cd t y tb o lo hs N' q1 q2 q3 q4
theorem line_11 : True := by
  (k_with "call ref" => (k_here; k_dflt (refine' use_objf _ _ _ _ _ ?q9B ?q9F ?q9X ?q9N ?q9T ?q9hk ?q9hd ?q9hu ?_; walk_at "m_used"; k_whole); intro _ _ _ _ _ _ _ _ _ _ _ _ _ _ _; intro q1; (try k_lt q1); revert q1; intro _; intro _ _ _; walk_at "m_on"))
  trivial
set_option maxHeartbeats 1000000
/-- the law's best so far, by the nearest start of the entries -/
noncomputable def bestOf (at' body b : Int) : Try := if b < body ∧ body ≤ at' then (body, 0, Str.ofString "", Str.ofString "body") else if b = -1 then (-1, 0, Str.ofString "", Str.ofString "") else (b, 1, Str.ofString "", Str.ofString "")
theorem ent_tries (at' body : Int) (hb : 0 ≤ body) : ∀ (es : List (Bool × Int)) (b : Int), -1 ≤ b → (∀ e ∈ es, 0 ≤ e.2) → (entTries es).foldl (tryStep at') (bestOf at' body b) = bestOf at' body (es.foldl (entStep at') b) ∧ -1 ≤ es.foldl (entStep at') b
  | [], b, h, _ => ⟨rfl, h⟩
  | (false, x) :: es, b, h, he => by
    have := ent_tries at' body hb es b h (fun e q => he e (.tail _ q))
    simpa [entTries, entStep] using this
  | (true, x) :: es, b, h, he => by
    have hx : 0 ≤ x := he _ (.head _)
    have e1 : tryStep at' (bestOf at' body b) (x, 1, Str.ofString "", Str.ofString "") = bestOf at' body (entStep at' b (true, x)) ∧ -1 ≤ entStep at' b (true, x) := by
      simp only [bestOf, entStep, tryStep, true_and]
      by_cases c1 : b < body ∧ body ≤ at'
      · simp only [if_pos c1, gtT]
        by_cases c2 : x = body
        · have q1 : b < x ∧ x ≤ at' := by omega
          have q2 : ¬ (x < body ∧ body ≤ at') := by omega
          have q3 : ¬ x = -1 := by omega
          subst c2
          simp [q1, q3]; omega
        · by_cases c3 : body < x
          · by_cases c4 : x ≤ at'
            · have q1 : b < x ∧ x ≤ at' := by omega
              have q2 : ¬ (x < body) := by omega
              have q3 : ¬ x = -1 := by omega
              simp [q1, q2, q3, c2, c3]; omega
            · simp [c4, c1]; omega
          · by_cases c4 : b < x ∧ x ≤ at'
            · have q2 : x < body := by omega
              simp [c2, c3, c4, q2, c1.2]; omega
            · simp [c2, c3, c4, c1]; omega
      · simp only [if_neg c1]
        by_cases c2 : b = -1
        · simp only [if_pos c2, gtT]
          subst c2
          by_cases c4 : x ≤ at'
          · have q1 : ¬ (x < body ∧ body ≤ at') := by omega
            have q2 : (-1 : Int) < x := by omega
            have q3 : ¬ x = -1 := by omega
            simp [c4, q1, q2, q3]; omega
          · simp [c4, c1]
        · simp only [if_neg c2, gtT]
          by_cases c4 : x = b
          · subst c4
            have : ¬ (x < body ∧ body ≤ at') := c1
            simp [this, c2]; omega
          · by_cases c5 : b < x ∧ x ≤ at'
            · have q1 : ¬ (x < body ∧ body ≤ at') := by omega
              have q3 : ¬ x = -1 := by omega
              simp [c4, c5, q1, q3]; omega
            · have q4 : ¬ (x ≤ at' ∧ b < x) := by omega
              simp [c4, c5, q4, c1, c2]; omega
    have := ent_tries at' body hb es _ e1.2 (fun e q => he e (.tail _ q))
    rw [← e1.1] at this
    simpa [entTries] using this
theorem cmd_tries (at' : Int) : ∀ (cs : List (Str × Int)) (best : Try) (s : Int × Str), best.1 = s.1 → best.2.2.2 = s.2 → (best.2.1 = 0 ∨ best.2.1 = 1 ∨ best.2.1 = 2 ∧ ∀ c ∈ cs, c.1 ≠ best.2.2.1 ∧ gtS c.1 best.2.2.1 = true) →
    cs.Pairwise (fun a b => b.1 ≠ a.1 ∧ gtS b.1 a.1 = true) → ((cmdTries cs).foldl (tryStep at') best).2.2.2 = (cs.foldl (cmdStep at') s).2
  | [], _, _, _, h2, _, _ => h2
  | (k, x) :: cs, best, s, h1, h2, h3, hp => by
    obtain ⟨b1, b2, b3, b4⟩ := best
    obtain ⟨s1, s2⟩ := s
    simp only at h1 h2 h3
    subst h1 h2
    have hp' := List.pairwise_cons.mp hp
    have key : gtT (x, 2, k, k) (b1, b2, b3, b4) = decide (b1 ≤ x) := by
      simp only [gtT]
      by_cases c : x = b1
      · subst c
        rcases h3 with rfl | rfl | ⟨rfl, h⟩
        · simp
        · simp
        · obtain ⟨q1, q2⟩ := h _ (.head _)
          simp only at q1 q2
          simp [q1, q2]
      · have : decide (x > b1) = decide (b1 ≤ x) := by rw [decide_eq_decide]; omega
        simp [c, this]
    simp only [cmdTries, List.map_cons, List.foldl_cons, tryStep, cmdStep, key]
    by_cases c : b1 ≤ x ∧ x ≤ at'
    · have c' : x ≤ at' ∧ decide (b1 ≤ x) = true := ⟨c.2, by simpa using c.1⟩
      rw [if_pos c, if_pos c']
      refine cmd_tries at' cs _ _ rfl rfl (.inr (.inr ⟨rfl, fun c hc => ?_⟩)) hp'.2
      exact hp'.1 c hc
    · have c' : ¬ (x ≤ at' ∧ decide (b1 ≤ x) = true) := by simp; omega
      rw [if_neg c, if_neg c']
      refine cmd_tries at' cs _ _ rfl rfl ?_ hp'.2
      rcases h3 with h | h | ⟨h, q⟩
      · exact .inl h
      · exact .inr (.inl h)
      · exact .inr (.inr ⟨h, fun c hc => q c (.tail _ hc)⟩)
theorem words_up : ∀ cs : List Int, (wordsOf cs).Pairwise (fun a b => b.1 ≠ a.1 ∧ gtS b.1 a.1 = true) := by
  have h1 : Str.ofString "Q" ≠ Str.ofString "P" ∧ gtS (Str.ofString "Q") (Str.ofString "P") = true := by decide +kernel
  have h2 : Str.ofString "R" ≠ Str.ofString "P" ∧ gtS (Str.ofString "R") (Str.ofString "P") = true := by decide +kernel
  have h3 : Str.ofString "R" ≠ Str.ofString "Q" ∧ gtS (Str.ofString "R") (Str.ofString "Q") = true := by decide +kernel
  intro cs
  match cs with
  | [] => simp [wordsOf]
  | [a] => simp [wordsOf]
  | [a, b] => simpa [wordsOf] using h1
  | a :: b :: c :: r => simp only [wordsOf, List.zip_cons_cons, List.zip_nil_left, List.pairwise_cons, List.mem_cons, List.not_mem_nil, or_false, false_imp_iff, imp_true_iff, List.Pairwise.nil, and_true, forall_eq_or_imp, forall_eq]; exact ⟨⟨h1, h2⟩, h3⟩
/-- the law's name is the project's -/
theorem lawName_eq (d : OD) (at' : Int) (hb : 0 ≤ d.body) (he : ∀ e ∈ d.ents, 0 ≤ e.2) : lawName d at' = nearest d at' := by
  unfold lawName nearest
  rw [List.foldl_append, List.foldl_cons]
  have e0 : tryStep at' ((-1, 0, Str.ofString "", Str.ofString "") : Try) (d.body, 0, Str.ofString "", Str.ofString "body") = bestOf at' d.body (-1) := by
    have q1 : (-1 : Int) < d.body := by omega
    have q2 : ¬ d.body = -1 := by omega
    simp [tryStep, bestOf, gtT, q1, q2]
  have h := ent_tries at' d.body hb d.ents (-1) (by omega) he
  rw [e0, h.1]
  generalize d.ents.foldl (entStep at') (-1) = b at h
  refine cmd_tries at' _ _ _ ?_ ?_ ?_ (words_up _)
  all_goals unfold bestOf
  all_goals by_cases c : b < d.body ∧ d.body ≤ at'
  all_goals first | rw [if_pos c] | rw [if_neg c]
  all_goals first | rw [if_pos c] | rw [if_neg c] | skip
  all_goals by_cases c2 : b = -1
  all_goals first | rw [if_pos c2] | rw [if_neg c2] | skip
  all_goals first | rfl | exact c2.symm | exact .inl rfl | exact .inr (.inl rfl)
set_option maxHeartbeats 400000
theorem fill_C5 : (fun (_ : OpenLaw) (_ : Params → Frag) => True) PySem.Challenge.rw_nu0347_01 hd.heap_1 := by
  w_top off
  k_fill
  trivial
theorem kind_code5 {b : Bool} (h : ((bif b then Str.ofString "code" else Str.ofString "data") == Str.ofString "code") = true) : b = true := by
  cases b
  · exact absurd h (by decide +kernel)
  · rfl
theorem kind_data5 {b : Bool} (h : ¬ ((bif b then Str.ofString "code" else Str.ofString "data") == Str.ofString "code") = true) : b = false := by
  cases b
  · rfl
  · exact absurd (by decide +kernel) h
theorem line_12 : True := by
  (k_with "exec If" => (k_here; (with_reducible show wpAny _ _ (exec (Stmt.If (PySem.Expr.Compare _ [CmpOp.Lt, CmpOp.LtE] [PySem.Expr.Attribute (PySem.Expr.Name (Str.ofString "found") _) _ _, _] _) _ _ _) _) _ _ _); k_dflt (refine (show HereStop (wpAny _ _ _ _ _ _) from ?_))))
  trivial
theorem near_spec (w : World) (x : Addr) (name : Str) (d : OD) (row : Int) (tr : Tok) (news : Led) (ho : ObjAt w news x name d) :
    Call 400 4000 w 35 [.ref x, .int row tr] news (fun r news' => news' = news ∧ ∃ t, r = .str (nearest d row) t) := by
  obtain ⟨dx, rl, el, cd, t, y, tb, rvs, evs, rn, en, o, kvs, ho⟩ := ho
  unfold Call
  intro mean mg mb gd cn cs a ccd cl outer A₀ base h₀ L m s Q E B F X N T hk hret
  obtain ⟨h1, h2, h3, h4, h5, h6, h7, h8, h9, h10⟩ := ho
  walk_at "m_enter"
  k_steps
  refine' my_list (σ := Int × Tok × Tok × Tok) (fun i c nx => news = nx ∧ c.1 = (d.ents.take i).foldl (entStep row) (-1)) (fun c => [(Str.ofString "row", .int row c.2.2.2), (Str.ofString "found", .ref x), (Str.ofString "best", .int c.1 c.2.1), (Str.ofString "name", .str (Str.ofString "") c.2.2.1)]) (-1, ?_, ?_, ?_) rfl h5 (by assumption) (by assumption) ⟨rfl, rfl⟩ ?hps (.inr ⟨⟨_, _, _, rfl⟩, h6.refs⟩) ?turn ?done
  case hps => (try dsimp only); kst_all
  case turn =>
    rintro i v c nx u h tk own hv ⟨rfl, hc⟩ hl hoff F₁ N₁
    obtain ⟨T, tk, tt, b, x', n, rfl, he, hT⟩ := h6.get hv
    dsimp only [kstB] at F₁
    k_steps
    all_goals (refine InvEndG.intro (nx := news) (by assumption) (by assumption) ⟨(by intro p hp; rw [List.mem_singleton.mp hp]; exact hl), (_, _, _, _), ⟨rfl, ?_⟩, by kst_all⟩ hoff (fun p hp => List.mem_append.mpr (.inl hp)) (fun p hp => List.mem_append.mpr (.inr hp)))
    all_goals (rw [List.take_add_one, he]; simp only [Option.toList, List.foldl_append, List.foldl_cons, List.foldl_nil, ← hc, entStep])
    · rw [if_pos (show b = true ∧ c.1 < x' ∧ x' ≤ row from ⟨kind_code5 (by assumption), by assumption, by assumption⟩)]
    · rw [if_neg (show ¬ (b = true ∧ c.1 < x' ∧ x' ≤ row) from fun h => by have := h.2.2; omega)]
    · rw [if_neg (show ¬ (b = true ∧ c.1 < x' ∧ x' ≤ row) from fun h => by have := h.2.1; omega)]
    · rw [if_neg (show ¬ (b = true ∧ c.1 < x' ∧ x' ≤ row) from fun h => absurd h.1 (by rw [kind_data5 (b := b) (by simpa using (by assumption : ((bif b then Str.ofString "code" else Str.ofString "data") == Str.ofString "code") = false))]; decide))]
  case done =>
    rintro c0 nx u h tk ⟨rfl, hc0⟩ hl F₁ N₁
    rw [h6.length, List.take_length] at hc0
    dsimp only [kstB] at F₁
    k_steps
    rename_i g9 LL _ _ _ _ _ _ _ _ F9 N9
    unfold HereStop
    obtain ⟨c1, hc1⟩ : ∃ c1 : Int × Str, c1 = if c0.1 < d.body ∧ d.body ≤ row then (d.body, Str.ofString "body") else (c0.1, Str.ofString "") := ⟨_, rfl⟩
    refine cut_here (fun fl s' => HereStop (fl = .next ∧ ∃ h' tk' m' tb' tn', s' = { s with heap := h', toks := tk' } ∧ Fr g9 LL h' m' ∧ (∀ p ∈ [(Str.ofString "row", Value.int row c0.2.2.2), (Str.ofString "found", .ref x), (Str.ofString "best", .int c1.1 tb'), (Str.ofString "name", .str c1.2 tn')], m' p.1 = some p.2) ∧ News g9 LL h' news)) ?cutA ?cutB
    case cutA =>
      by_cases hb : c0.1 < d.body ∧ d.body ≤ row
      · rw [if_pos hb] at hc1
        subst hc1
        refine wpAny_If ?_
        k_steps
        all_goals unfold HereStop
        all_goals exact ⟨rfl, _, _, _, _, _, rfl, (by assumption), (by kst_all), (by assumption)⟩
      · rw [if_neg hb] at hc1
        subst hc1
        refine wpAny_If ?_
        k_steps
        all_goals unfold HereStop
        all_goals exact ⟨rfl, _, _, _, _, _, rfl, (by assumption), (by kst_all), (by assumption)⟩
    case cutB =>
    intro fl s' hP
    unfold HereStop at hP
    obtain ⟨rfl, h', tk', m', tb', tn', rfl, F8, hm8, N8⟩ := hP
    clear F9 N9
    rw [← kstB_self hm8] at F8
    dsimp only [kstB] at F8
    k_steps
    rename_i D2 h2' tk2 vs2 e2 F2 N2 l2 hS2
    refine' my_list (σ := (Int × Str) × Tok × Tok × Tok) (fun i c nx => (D2, listOf vs2.toArray e2) :: news = nx ∧ c.1 = ((wordsOf d.cmds).take i).foldl (cmdStep row) c1) (fun c => [(Str.ofString "row", .int row c.2.2.2), (Str.ofString "found", .ref x), (Str.ofString "best", .int c.1.1 c.2.1), (Str.ofString "name", .str c.1.2 c.2.2.1)]) (c1, ?_, ?_, ?_) rfl (.head _) (by assumption) (by assumption) ⟨rfl, rfl⟩ ?hps (.inl fun _ _ => rfl) ?turn ?done
    case hps => (try dsimp only); kst_all
    case turn =>
      rintro i v c nx u h tk own hv ⟨rfl, hc⟩ hl hoff F₁ N₁
      obtain ⟨k, t, rfl, hk⟩ := strs_get hS2 hv
      obtain ⟨kv, hkv, rfl⟩ : ∃ kv, kvs[i]? = some kv ∧ kv.1 = k := by simpa using hk
      obtain ⟨cc, tc, e3, e4, hval⟩ := h10.get (k := kv.1) (v := kv.2) hkv
      dsimp only [kstB] at F₁
      k_steps
      all_goals (refine InvEndG.intro (nx := (D2, listOf vs2.toArray e2) :: news) (by assumption) (by assumption) ⟨(by intro p hp; rw [List.mem_singleton.mp hp]; exact hl), ((_, _), _, _, _), ⟨rfl, ?_⟩, by kst_all⟩ hoff (fun p hp => List.mem_append.mpr (.inl hp)) (fun p hp => List.mem_append.mpr (.inr hp)))
      all_goals (rw [List.take_add_one, e4]; simp only [Option.toList, List.foldl_append, List.foldl_cons, List.foldl_nil, ← hc, cmdStep])
      · rw [if_pos (show c.1.1 ≤ cc ∧ cc ≤ row from ⟨by assumption, by assumption⟩)]
      · rw [if_neg (show ¬ (c.1.1 ≤ cc ∧ cc ≤ row) from fun h => by have := h.2; omega)]
      · rw [if_neg (show ¬ (c.1.1 ≤ cc ∧ cc ≤ row) from fun h => by have := h.1; omega)]
    case done =>
      rintro c nx u h tk ⟨rfl, hc⟩ hl F₁ N₁
      rw [strs_len hS2, List.length_map, h10.length, List.take_length] at hc
      dsimp only [kstB] at F₁
      k_steps
      have hfin : nearest d row = c.1.2 := by
        rw [hc, hc1]; unfold nearest; rw [← hc0]
      rw [← hfin]
      exact hret _ _ _ _ ⟨rfl, _, rfl⟩ (by assumption) (News.sub (by assumption) (fun p hp => List.mem_cons_of_mem _ hp))
theorem use_near {dp' un' : Nat} {mean : ExcName → Option Value} {mg mb : Str → Option Value} {gd : Option (List Code)} {cn : Str} {cs : Scope} {a0 : Addr} {ccd : Value} {cl : List (Str × Addr)} {outer : List Env} {A₀ : Around} {base0 h₀ : Heap} {L0 : Addr} {m0 : Str → Option Value} {s : Shared} {Q E0 : Value → Shared → Prop} (w : World) (x : Addr) (name : Str) (d : OD) (row : Int) (tr : Tok) (news : Led) (ho : ObjAt w news x name d)
    (B : Below A₀ base0 outer h₀) (F : Fr h₀ L0 s.heap m0) (X : (hd.heap_1 w.params).In h₀) (N : News h₀ L0 s.heap news) (T : Top hd.view_1 (looseW hd.view_1 []) mean mg mb h₀) (hk : cs.kind = .function) (hd' : dp' ≤ 400) (hu : un' ≤ 4000)
    (k0 : ∀ h' tk', Fr h₀ L0 h' m0 → ∀ t, News h₀ L0 h' (news) → Q (.str (nearest d row) t) { s with heap := h', toks := tk' }) :
    wpAny (model PySem.Challenge.rw_nu0347_01.row.prog w) (ktrTop dp' un' gd cn cs L0 a0 ccd cl outer) (call (.ref 35) [.ref x, .int row tr]) Q E0 s :=
  Call.use B F X N T hk (near_spec w x name d row tr news ho) hd' hu fun r news' h' tk' hp F' N' => by
    obtain ⟨rfl, t, rfl⟩ := hp
    exact k0 _ _ F' t N'
theorem line_13 : True := by
  (k_with "call ref" => (k_here; k_dflt (refine' use_near _ _ _ _ _ _ _ ?q9ho ?q9B ?q9F ?q9X ?q9N ?q9T ?q9hk ?q9hd ?q9hu ?_; walk_at "m_used"; (case q9ho => k_asm); k_whole); intro _ _ _ _ _; walk_at "m_on"))
  trivial
set_option maxHeartbeats 400000
theorem fill_C6 : (fun (_ : OpenLaw) (_ : Params → Frag) => True) PySem.Challenge.rw_nu0347_01 hd.heap_1 := by
  w_top off
  k_fill
  trivial
theorem lawname_spec (w : World) (x : Addr) (name : Str) (d : OD) (row : Int) (tr : Tok) (news : Led) (ho : ObjAt w news x name d) (hE : d.ents.length ≤ 100) :
    Call 400 4000 w 460 [.ref x, .int row tr] news (fun r news' => news' = news ∧ ∃ t, r = .str (lawName d row) t) := by
  obtain ⟨dx, rl, el, cd, t, y, tb, rvs, evs, rn, en, o, kvs, ho⟩ := ho
  unfold Call
  intro mean mg mb gd cn cs a ccd cl outer A₀ base h₀ L m s Q E B F X N T hk hret
  obtain ⟨h1, h2, h3, h4, h5, h6, h7, h8, h9, h10⟩ := ho
  walk_at "m_enter"
  k_steps
  rename_i B0 hh1 la hh2 tk1 D0 hh3 lb TL hh4 lc hh5 lF N9


  have N8 : ∃ d0 d1 d2 d3 b0 b1 b2 b3, News _ _ hh5 ((TL, listOf [Value.ref D0].toArray 0) :: (D0, tryObj (d.body, 0, Str.ofString "", Str.ofString "body") d0 d1 d2 d3 0) :: (B0, tryObj (-1, 0, Str.ofString "", Str.ofString "") b0 b1 b2 b3 0) :: news) := ⟨_, _, _, _, _, _, _, _, N9⟩
  obtain ⟨d0, d1, d2, d3, b0, b1, b2, b3, N8⟩ := N8
  obtain ⟨rest0, hrest0⟩ : ∃ r : Led, r = (D0, tryObj (d.body, 0, Str.ofString "", Str.ofString "body") d0 d1 d2 d3 0) :: (B0, tryObj (-1, 0, Str.ofString "", Str.ofString "") b0 b1 b2 b3 0) :: news := ⟨_, rfl⟩
  rw [← hrest0] at N8
  have hB : (B0, tryObj (-1, 0, Str.ofString "", Str.ofString "") b0 b1 b2 b3 0) ∈ rest0 := by rw [hrest0]; exact .tail _ (.head _)
  have hD : (D0, tryObj (d.body, 0, Str.ofString "", Str.ofString "body") d0 d1 d2 d3 0) ∈ rest0 := by rw [hrest0]; exact .head _
  have hsub : ∀ p ∈ news, p ∈ rest0 := by rw [hrest0]; exact fun p hp => .tail _ (.tail _ hp)
  have hoff0 : OwnOff rest0 [TL] := off_one (by rw [hrest0]; intro p hp; rcases List.mem_cons.mp hp with rfl | hp; exact Nat.ne_of_lt lc.1; rcases List.mem_cons.mp hp with rfl | hp; exact Nat.ne_of_lt lc.2.1; exact Nat.ne_of_lt (tb_ltOf lc.2.2 p hp))
  clear N9 hrest0 la lb lc
  refine' my_list (σ := List Value × Nat × Led) (fun i c nx => nx = (TL, listOf c.1.toArray c.2.1) :: (c.2.2 ++ rest0) ∧ TriesAre (c.2.2 ++ rest0) c.1 ((d.body, 0, Str.ofString "", Str.ofString "body") :: entTries (d.ents.take i)) ∧ OwnOff (c.2.2 ++ rest0) [TL] ∧ c.1.length ≤ 1 + i) (fun _ => [(Str.ofString "one", .ref x), (Str.ofString "at", .int row tr), (Str.ofString "best", .ref B0), (Str.ofString "tries", .ref TL)]) ([.ref D0], 0, []) rfl (List.mem_cons_of_mem _ (hsub _ h5)) (by assumption) N8 ⟨rfl, .cons hD .nil, hoff0, by simp⟩ ?hps (.inr ⟨⟨_, _, _, rfl⟩, h6.refs⟩) ?turn ?done
  case hps => (try dsimp only); kst_all
  case turn =>
    rintro i v ⟨tv, n, tups⟩ nx u h tk own hv ⟨rfl, hT, hoT, hlen⟩ hl hoff F₁ N₁
    dsimp only at hT hoT hlen hl hoff N₁
    obtain ⟨T, tk, tt, b, x', n', rfl, he, hTup⟩ := h6.get hv
    dsimp only [kstB] at F₁
    obtain ⟨R, hR⟩ : ∃ R : Led, R = (tups ++ rest0) ++ own := ⟨_, rfl⟩
    have N₂ := N₁
    rw [List.cons_append, ← hR] at N₂
    have hown : ∀ p ∈ own, p.1 ≠ TL := fun p hp => hoff p hp TL (.head _)
    have hoR : OwnOff R [TL] := off_one (by rw [hR]; exact fun p hp => (List.mem_append.mp hp).elim (fun h => hoT p h TL (.head _)) (hown p))
    have hs1 : ∀ p ∈ tups ++ rest0, p ∈ R := by rw [hR]; exact fun p hp => List.mem_append.mpr (.inl hp)
    have hs2 : ∀ p ∈ own, p ∈ R := by rw [hR]; exact fun p hp => List.mem_append.mpr (.inr hp)
    have hs3 : ∀ p ∈ news, p ∈ R := fun p hp => hs1 p (List.mem_append.mpr (.inr (hsub p hp)))
    replace hTup := hs3 _ hTup
    have hi : i < d.ents.length := (List.getElem?_eq_some_iff.mp he).1
    have hsz : tv.length ≤ sizeLine := size3 (k := 200) (by omega) (by omega)
    clear N₁ hR
    k_steps
    · rename_i hcode tkx T9 hh8 l9 hh9 F9 N9
      simp only [List.push_toArray] at N9
      refine append_end (by assumption) N9 hs1 hs2 l9 hoff ⟨(by intro p hp; rw [List.mem_singleton.mp hp]; exact .tail _ (.tail _ (List.mem_append.mpr (.inr (hsub _ h5))))), (tv ++ [.ref T9], n + 1, (T9, _) :: tups), ⟨rfl, ?_, off_cons hoT l9.1, (by simp only [List.length_append, List.length_singleton]; omega)⟩, by kst_all⟩
      have e9 : entTries (d.ents.take (i + 1)) = entTries (d.ents.take i) ++ [((x', 1, Str.ofString "", Str.ofString "") : Try)] := by
        rw [List.take_add_one, he, kind_code hcode]; simp [entTries]
      rw [e9, ← List.cons_append]
      exact TriesAre.snoc (e := (x', 1, Str.ofString "", Str.ofString "")) (.head _) (TriesAre.mono (fun p hp => List.mem_cons_of_mem _ hp) hT)
    · rename_i hcode
      refine same_end (by assumption) (by assumption) hs1 hs2 hoff ⟨(by intro p hp; rw [List.mem_singleton.mp hp]; exact .tail _ (List.mem_append.mpr (.inr (hsub _ h5)))), (tv, n, tups), ⟨rfl, ?_, hoT, (by dsimp only; omega)⟩, by kst_all⟩
      have e9 : entTries (d.ents.take (i + 1)) = entTries (d.ents.take i) := by
        rw [List.take_add_one, he, kind_data' hcode]; simp [entTries]
      rw [e9]
      exact hT
  case done =>
    rintro ⟨tv, n, tups⟩ nx u h tk ⟨rfl, hT, hoT, hlen⟩ hl F₁ N₁
    rw [h6.length] at hT hlen
    rw [List.take_length] at hT
    dsimp only [kstB] at hT hoT hlen hl F₁ N₁
    obtain ⟨rest1, hrest1⟩ : ∃ R : Led, R = tups ++ rest0 := ⟨_, rfl⟩
    have hsub1 : ∀ p ∈ rest0, p ∈ rest1 := by rw [hrest1]; exact fun p hp => List.mem_append.mpr (.inr hp)
    rw [← hrest1] at hT hoT N₁
    have hB1 := hsub1 _ hB
    have hsub2 : ∀ p ∈ news, p ∈ rest1 := fun p hp => hsub1 p (hsub p hp)
    have h1' := hsub2 _ h1
    have h2' := hsub2 _ h2
    have h7' := hsub2 _ h7
    clear hl hrest1
    k_steps
    refine' my_dict (σ := List Value × Nat × Led) (fun i c nx => nx = (TL, listOf c.1.toArray c.2.1) :: (c.2.2 ++ rest1) ∧ TriesAre (c.2.2 ++ rest1) c.1 (((d.body, 0, Str.ofString "", Str.ofString "body") :: entTries d.ents) ++ cmdTries ((wordsOf d.cmds).take i)) ∧ OwnOff (c.2.2 ++ rest1) [TL] ∧ c.1.length ≤ 101 + i) (fun _ => [(Str.ofString "one", .ref x), (Str.ofString "at", .int row tr), (Str.ofString "best", .ref B0), (Str.ofString "tries", .ref TL)]) (tv, n, []) rfl (List.mem_cons_of_mem _ h7') h9 h8 (by assumption) (by assumption) ⟨rfl, (by simpa [cmdTries] using hT), hoT, (by dsimp only; omega)⟩ ?hps ?turn ?done
    case hps => (try dsimp only); kst_all
    case turn =>
      rintro i k v tk' ⟨tv, n, tups⟩ nx u h tk own hk ⟨rfl, hT, hoT, hlen⟩ hl hoff F₁ N₁
      dsimp only at hT hoT hlen hl hoff N₁
      obtain ⟨cc, tc, rfl, e4, hval⟩ := h10.get hk
      have hi : i < kvs.length := (List.getElem?_eq_some_iff.mp hk).1
      dsimp only [kstB] at F₁
      obtain ⟨R, hR⟩ : ∃ R : Led, R = (tups ++ rest1) ++ own := ⟨_, rfl⟩
      have N₂ := N₁
      rw [List.cons_append, ← hR] at N₂
      have hown : ∀ p ∈ own, p.1 ≠ TL := fun p hp => hoff p hp TL (.head _)
      have hoR : OwnOff R [TL] := off_one (by rw [hR]; exact fun p hp => (List.mem_append.mp hp).elim (fun h => hoT p h TL (.head _)) (hown p))
      have hs1 : ∀ p ∈ tups ++ rest1, p ∈ R := by rw [hR]; exact fun p hp => List.mem_append.mpr (.inl hp)
      have hs2 : ∀ p ∈ own, p ∈ R := by rw [hR]; exact fun p hp => List.mem_append.mpr (.inr hp)
      have hs3 : ∀ p ∈ rest1, p ∈ R := fun p hp => hs1 p (List.mem_append.mpr (.inr hp))
      have q1 := hs3 _ h1'
      have q2 := hs3 _ h2'
      have q7 := hs3 _ h7'
      have hsz : tv.length ≤ sizeLine := size3 (k := 200) (by have := h10.length; have : (wordsOf d.cmds).length ≤ 3 := (by simp [wordsOf]; omega); omega) (by omega)
      clear N₁ hR
      k_steps
      rename_i T9 hh8 l9 hh9 F9 N9
      simp only [List.push_toArray] at N9
      refine append_end (by assumption) N9 hs1 hs2 l9 hoff ⟨(by intro p hp; rw [List.mem_singleton.mp hp]; exact .tail _ (.tail _ (List.mem_append.mpr (.inr h7')))), (tv ++ [.ref T9], n + 1, (T9, _) :: tups), ⟨rfl, ?_, off_cons hoT l9.1, (by simp only [List.length_append, List.length_singleton]; omega)⟩, by kst_all⟩
      have e9 : cmdTries ((wordsOf d.cmds).take (i + 1)) = cmdTries ((wordsOf d.cmds).take i) ++ [((cc, 2, k, k) : Try)] := by
        rw [List.take_add_one, e4]; simp [cmdTries]
      rw [e9, ← List.append_assoc]
      exact TriesAre.snoc (e := (cc, 2, k, k)) (.head _) (TriesAre.mono (fun p hp => List.mem_cons_of_mem _ hp) hT)
    case done =>
      rintro ⟨tv, n, tups⟩ nx u h tk ⟨rfl, hT, hoT, hlen⟩ hl F₁ N₁
      rw [h10.length] at hT hlen
      rw [List.take_length] at hT
      dsimp only [kstB] at hT hoT hlen hl F₁ N₁
      obtain ⟨rest2, hrest2⟩ : ∃ R : Led, R = tups ++ rest1 := ⟨_, rfl⟩
      have hsub3 : ∀ p ∈ rest1, p ∈ rest2 := by rw [hrest2]; exact fun p hp => List.mem_append.mpr (.inr hp)
      rw [← hrest2] at hT hoT N₁
      have hB2 := hsub3 _ hB1
      have hsub4 : ∀ p ∈ news, p ∈ rest2 := fun p hp => hsub3 p (hsub2 p hp)
      clear hl hrest2
      k_steps
      refine' my_list (σ := Addr × Try) (fun i c nx => (TL, listOf tv.toArray n) :: rest2 = nx ∧ (∃ t0 t1 t2 t3 k, (c.1, tryObj c.2 t0 t1 t2 t3 k) ∈ rest2) ∧ c.2 = (((((d.body, 0, Str.ofString "", Str.ofString "body") : Try) :: entTries d.ents) ++ cmdTries (wordsOf d.cmds)).take i).foldl (tryStep row) (-1, 0, Str.ofString "", Str.ofString "")) (fun c => [(Str.ofString "at", .int row tr), (Str.ofString "best", .ref c.1)]) (B0, (-1, 0, Str.ofString "", Str.ofString "")) rfl (.head _) (by assumption) (by assumption) ⟨rfl, ⟨_, _, _, _, _, hB2⟩, rfl⟩ ?hps (.inl fun _ _ => rfl) ?turn ?done
      case hps => (try dsimp only); kst_all
      case turn =>
        rintro i v ⟨bx, be⟩ nx u h tk own hv ⟨rfl, hbx, hbe⟩ hl hoff F₁ N₁
        dsimp only at hbx hbe
        obtain ⟨T, e, t0, t1, t2, t3, k, rfl, he, hTm⟩ := hT.get hv
        obtain ⟨u0, u1, u2, u3, uk, hbx⟩ := hbx
        dsimp only [kstB] at F₁
        obtain ⟨R, hR⟩ : ∃ R : Led, R = rest2 ++ own := ⟨_, rfl⟩
        have N₂ := N₁
        rw [List.cons_append, ← hR] at N₂
        have q1 : (T, tryObj e t0 t1 t2 t3 k) ∈ R := by rw [hR]; exact List.mem_append.mpr (.inl hTm)
        have q2 : (bx, tryObj be u0 u1 u2 u3 uk) ∈ R := by rw [hR]; exact List.mem_append.mpr (.inl hbx)
        have hs1 : ∀ p ∈ rest2, p ∈ R := by rw [hR]; exact fun p hp => List.mem_append.mpr (.inl hp)
        have hs2 : ∀ p ∈ own, p ∈ R := by rw [hR]; exact fun p hp => List.mem_append.mpr (.inr hp)
        clear N₁ hR
        k_steps
        · refine same_end (tups := []) (rest0 := rest2) (by assumption) (by assumption) hs1 hs2 hoff ⟨(by intro p hp; rw [List.mem_singleton.mp hp]; exact hl), (T, e), ⟨rfl, ⟨_, _, _, _, _, hTm⟩, ?_⟩, by kst_all⟩
          rw [List.take_add_one, he]; simp only [Option.toList, List.foldl_append, List.foldl_cons, List.foldl_nil]
          rw [← hbe, tryStep, if_pos ⟨by assumption, by assumption⟩]
        · refine same_end (tups := []) (rest0 := rest2) (by assumption) (by assumption) hs1 hs2 hoff ⟨(by intro p hp; rw [List.mem_singleton.mp hp]; exact hl), (bx, be), ⟨rfl, ⟨_, _, _, _, _, hbx⟩, ?_⟩, by kst_all⟩
          rw [List.take_add_one, he]; simp only [Option.toList, List.foldl_append, List.foldl_cons, List.foldl_nil]
          rw [← hbe, tryStep, if_neg (show ¬ (e.1 ≤ row ∧ gtT e be = true) from fun z => by simp_all)]
        · refine same_end (tups := []) (rest0 := rest2) (by assumption) (by assumption) hs1 hs2 hoff ⟨(by intro p hp; rw [List.mem_singleton.mp hp]; exact hl), (bx, be), ⟨rfl, ⟨_, _, _, _, _, hbx⟩, ?_⟩, by kst_all⟩
          rw [List.take_add_one, he]; simp only [Option.toList, List.foldl_append, List.foldl_cons, List.foldl_nil]
          rw [← hbe, tryStep, if_neg (show ¬ (e.1 ≤ row ∧ gtT e be = true) from fun z => by have := z.1; omega)]
      case done =>
        rintro ⟨bx, be⟩ nx u h tk ⟨rfl, hbx, hbe⟩ hl F₁ N₁
        rw [hT.length, List.take_length] at hbe
        dsimp only at hbx hbe
        obtain ⟨u0, u1, u2, u3, uk, hbx⟩ := hbx
        dsimp only [kstB] at F₁
        k_steps
        have hfin : lawName d row = be.2.2.2 := by rw [hbe]; rfl
        rw [← hfin]
        exact hret _ _ _ _ ⟨rfl, _, rfl⟩ (by assumption) (News.sub (by assumption) (fun p hp => List.mem_cons_of_mem _ (hsub4 p hp)))
theorem use_lawname {dp' un' : Nat} {mean : ExcName → Option Value} {mg mb : Str → Option Value} {gd : Option (List Code)} {cn : Str} {cs : Scope} {a0 : Addr} {ccd : Value} {cl : List (Str × Addr)} {outer : List Env} {A₀ : Around} {base0 h₀ : Heap} {L0 : Addr} {m0 : Str → Option Value} {s : Shared} {Q E0 : Value → Shared → Prop} (w : World) (x : Addr) (name : Str) (d : OD) (row : Int) (tr : Tok) (news : Led) (ho : ObjAt w news x name d) (hE : d.ents.length ≤ 100)
    (B : Below A₀ base0 outer h₀) (F : Fr h₀ L0 s.heap m0) (X : (hd.heap_1 w.params).In h₀) (N : News h₀ L0 s.heap news) (T : Top hd.view_1 (looseW hd.view_1 []) mean mg mb h₀) (hk : cs.kind = .function) (hd' : dp' ≤ 400) (hu : un' ≤ 4000)
    (k0 : ∀ h' tk', Fr h₀ L0 h' m0 → ∀ t, News h₀ L0 h' (news) → Q (.str (lawName d row) t) { s with heap := h', toks := tk' }) :
    wpAny (model PySem.Challenge.rw_nu0347_01.row.prog w) (ktrTop dp' un' gd cn cs L0 a0 ccd cl outer) (call (.ref 460) [.ref x, .int row tr]) Q E0 s :=
  Call.use B F X N T hk (lawname_spec w x name d row tr news ho hE) hd' hu fun r news' h' tk' hp F' N' => by
    obtain ⟨rfl, t, rfl⟩ := hp
    exact k0 _ _ F' t N'
theorem line_14 : True := by
  (k_with "call ref" => (k_here; k_dflt (refine' use_lawname _ _ _ _ _ _ _ ?q9ho ?q9hE ?q9B ?q9F ?q9X ?q9N ?q9T ?q9hk ?q9hd ?q9hu ?_; walk_at "m_used"; (case q9ho => k_asm); (case q9hE => omega); k_whole); intro _ _ _ _ _; walk_at "m_on"))
  trivial
set_option maxHeartbeats 400000
theorem fill_C7 : (fun (_ : OpenLaw) (_ : Params → Frag) => True) PySem.Challenge.rw_nu0347_01 hd.heap_1 := by
  w_top off
  k_fill
  trivial
theorem module_at_spec (w : World) (mach md mem cpu ll : Addr) (t : Nat → Tok) (y : Nat → Value) (lvs : List Value) (ln : Nat) (ms : List MD) (row : Int) (tr : Tok) (news : Led)
    (h1 : (mach, instObj 407 md) ∈ news) (h2 : (md, machDict w t y mem cpu ll) ∈ news) (h3 : (ll, listOf lvs.toArray ln) ∈ news) (h4 : ModsAre w news lvs ms) :
    Call 400 4000 w 28 [.ref mach, .int row tr] news (fun r news' => news' = news ∧ ((findMod ms row = none ∧ r = .none) ∨ ∃ l m, findMod ms row = some m ∧ r = .ref l ∧ LoadAt w news l m)) := by
  unfold Call
  intro mean mg mb gd cn cs a ccd cl outer A₀ base h₀ L m s Q E B F X N T hk hret
  walk_at "m_enter"
  k_steps
  refine' my_list (σ := Unit) (fun i c nx => news = nx ∧ ∀ m ∈ ms.take i, inMod row m = false) (fun c => [(Str.ofString "row", .int row tr)]) () rfl h3 (by assumption) (by assumption) ⟨rfl, by simp⟩ ?hps (.inl fun _ _ => rfl) ?turn ?done
  case hps => (try dsimp only); kst_all
  case turn =>
    rintro i v c nx u h tk own hv ⟨rfl, hc⟩ hl hoff F₁ N₁
    obtain ⟨l, m, rfl, hm, ld, ob, t', y', g1, g2, ⟨dx, rl, el, cd, t2, y2, tb, rvs, evs, rn, en, o, kvs, g3⟩, g0⟩ := h4.get hv
    have g4 := g3.inst
    have g5 := g3.dict
    have g6 := g3.rows
    have g7 := g3.many
    have g8 := g0.rows
    dsimp only [kstB] at F₁
    k_steps
    · have hin : inMod row m = true := by simp only [inMod, decide_eq_true_eq]; omega
      exact hret _ _ _ _ ⟨rfl, .inr ⟨l, m, find_some_of hc hm hin, rfl, ⟨ld, ob, t', y', g1, g2, ⟨dx, rl, el, cd, t2, y2, tb, rvs, evs, rn, en, o, kvs, g3⟩, g0⟩⟩⟩ (by assumption) (News.sub (by assumption) (fun p hp => List.mem_append.mpr (.inl hp)))
    · refine InvEndG.intro (nx := news) (by assumption) (by assumption) ⟨(by intro p hp; rw [List.mem_singleton.mp hp]; exact hl), (), ⟨rfl, none_step hc hm (by simp only [inMod, decide_eq_false_iff_not]; omega)⟩, by kst_all⟩ hoff (fun p hp => List.mem_append.mpr (.inl hp)) (fun p hp => List.mem_append.mpr (.inr hp))
    · refine InvEndG.intro (nx := news) (by assumption) (by assumption) ⟨(by intro p hp; rw [List.mem_singleton.mp hp]; exact hl), (), ⟨rfl, none_step hc hm (by simp only [inMod, decide_eq_false_iff_not]; omega)⟩, by kst_all⟩ hoff (fun p hp => List.mem_append.mpr (.inl hp)) (fun p hp => List.mem_append.mpr (.inr hp))
  case done =>
    rintro c nx u h tk ⟨rfl, hc⟩ hl F₁ N₁
    dsimp only [kstB] at F₁
    k_steps
    exact hret _ _ _ _ ⟨rfl, .inl ⟨find_none_of hc (Nat.le_of_eq h4.length.symm), rfl⟩⟩ (by assumption) (by assumption)

theorem use_module_at {dp' un' : Nat} {mean : ExcName → Option Value} {mg mb : Str → Option Value} {gd : Option (List Code)} {cn : Str} {cs : Scope} {a0 : Addr} {ccd : Value} {cl : List (Str × Addr)} {outer : List Env} {A₀ : Around} {base0 h₀ : Heap} {L0 : Addr} {m0 : Str → Option Value} {s : Shared} {Q E0 : Value → Shared → Prop} (w : World) (mach md mem cpu ll : Addr) (t : Nat → Tok) (y : Nat → Value) (lvs : List Value) (ln : Nat) (ms : List MD) (row : Int) (tr : Tok) (news : Led) (h1 : (mach, instObj 407 md) ∈ news) (h2 : (md, machDict w t y mem cpu ll) ∈ news) (h3 : (ll, listOf lvs.toArray ln) ∈ news) (h4 : ModsAre w news lvs ms)
    (B : Below A₀ base0 outer h₀) (F : Fr h₀ L0 s.heap m0) (X : (hd.heap_1 w.params).In h₀) (N : News h₀ L0 s.heap news) (T : Top hd.view_1 (looseW hd.view_1 []) mean mg mb h₀) (hk : cs.kind = .function) (hd' : dp' ≤ 400) (hu : un' ≤ 4000)
    (k0 : ∀ h' tk', Fr h₀ L0 h' m0 → News h₀ L0 h' (news) → findMod ms row = none → Q (.none) { s with heap := h', toks := tk' }) (k1 : ∀ h' tk', Fr h₀ L0 h' m0 → News h₀ L0 h' (news) → ∀ l m, findMod ms row = some m → ∀ ld ob t y, (l, instObj 73 ld) ∈ news → (ld, loadDict w t y m.name m.base ob) ∈ news → ObjAt w news ob m.name m.d → m.d.Ok → Q (.ref l) { s with heap := h', toks := tk' }) :
    wpAny (model PySem.Challenge.rw_nu0347_01.row.prog w) (ktrTop dp' un' gd cn cs L0 a0 ccd cl outer) (call (.ref 28) [.ref mach, .int row tr]) Q E0 s :=
  Call.use B F X N T hk (module_at_spec w mach md mem cpu ll t y lvs ln ms row tr news h1 h2 h3 h4) hd' hu fun r news' h' tk' hp F' N' => by
    obtain ⟨rfl, hp⟩ := hp
    rcases hp with ⟨f1, rfl⟩ | ⟨l1, m1, f1, rfl, ld, ob, t1, y1, g1, g2, g3, g4⟩
    · exact k0 _ _ F' N' f1
    · exact k1 _ _ F' N' l1 m1 f1 ld ob t1 y1 g1 g2 g3 g4
theorem line_15 : True := by
  (k_with "call ref" => (k_here; k_dflt (refine' use_module_at _ _ _ _ _ _ _ _ _ _ _ _ _ _ ?q9h1 ?q9h2 ?q9h3 ?q9h4 ?q9B ?q9F ?q9X ?q9N ?q9T ?q9hk ?q9hd ?q9hu ?q9z0 ?q9z1; walk_at "m_used"; (case q9h1 => k_mem); (case q9h2 => k_mem); (case q9h3 => k_mem); (case q9h4 => k_asm); k_whole); (case' q9z1 => (intro _ _ _ _ _ _ _ _ _ _ _ _ _ _ _; walk_at "m_on")); (case' q9z0 => (intro _ _ _ _ _; walk_at "m_on"))))
  trivial
set_option maxHeartbeats 1000000
theorem fill_CD : (fun (_ : OpenLaw) (_ : Params → Frag) => True) PySem.Challenge.rw_nu0347_01 hd.heap_1 := by
  w_top off
  k_fill
  trivial
abbrev cpuDict (w : World) (t : Nat → Tok) (y : Nat → Value) (regs rows : Addr) (pc : Int) (tp : Tok) : Obj :=
  dictOf [ent w "memory" (t 0) (y 0), ent w "regs" (t 1) (.ref regs), ent w "h" (t 2) (y 1), ent w "n" (t 3) (y 2), ent w "z" (t 4) (y 3), ent w "c" (t 5) (y 4), ent w "v" (t 6) (y 5), ent w "pc" (t 7) (.int pc tp), ent w "rows" (t 8) (.ref rows)] 9
theorem add_rows_spec (w : World) (mach md mem cpu cdd regs rl ll src : Addr) (t t' : Nat → Tok) (y y' : Nat → Value) (pc : Int) (tp : Tok) (rvs vs : List Value) (rn sn : Nat) (news : Led) (g : Obj → Led)
    (h1 : (mach, instObj 407 md) ∈ news) (h2 : (md, machDict w t y mem cpu ll) ∈ news) (h3 : (cpu, instObj 259 cdd) ∈ news) (h4 : (cdd, cpuDict w t' y' regs rl pc tp) ∈ news) (h5 : (src, listOf vs.toArray sn) ∈ news) (U : UpdF rl (listOf rvs.toArray rn) news g)
    (n1 : mach ≠ rl) (n2 : md ≠ rl) (n3 : cpu ≠ rl) (n4 : cdd ≠ rl) (n5 : src ≠ rl) (hz : rvs.length + vs.length ≤ 1000) :
    Call 400 4000 w 348 [.ref mach, .ref src] news (fun r news' => ∃ t n', r = .int (rvs.length : Int) t ∧ news' = g (listOf (rvs ++ vs).toArray n')) := by
  obtain ⟨pre, post, rfl, hg, hp1, hp2⟩ := U.split
  unfold Call
  intro mean mg mb gd cn cs a ccd cl outer A₀ base h₀ L m s Q E B F X N T hk hret
  have N1 : News h₀ L s.heap ((rl, listOf rvs.toArray rn) :: (pre ++ post)) := News.sub N (by walk_at "m_sub")
  have ho : OwnOff (pre ++ post) [rl] := off_one (fun p hp => (List.mem_append.mp hp).elim (hp1 p) (hp2 p))
  have hfor : ∀ p ∈ pre ++ (rl, listOf rvs.toArray rn) :: post, p.1 ≠ rl → p ∈ pre ++ post := by
    intro p hp hne
    rcases List.mem_append.mp hp with hp | hp
    · exact List.mem_append.mpr (.inl hp)
    · rcases List.mem_cons.mp hp with rfl | hp
      · exact absurd rfl hne
      · exact List.mem_append.mpr (.inr hp)
  have hback : ∀ o', ∀ p ∈ g o', p ∈ (rl, o') :: (pre ++ post) := by
    intro o'
    rw [hg]
    walk_at "m_sub"
  replace h1 := hfor _ h1 n1
  replace h2 := hfor _ h2 n2
  replace h3 := hfor _ h3 n3
  replace h4 := hfor _ h4 n4
  replace h5 := hfor _ h5 n5
  clear N hfor hp1 hp2 U hg
  generalize pre ++ post = rest at *
  have hz1 : rvs.length ≤ sizeLine := size3 (k := 2000) (by omega) (by omega)
  obtain ⟨K, hK⟩ : ∃ K, rvs.length = K := ⟨_, rfl⟩
  rw [hK] at hret
  have hK2 : K ≤ 1000 := by omega
  walk_at "m_enter"
  k_steps
  rename_i F9 N9
  refine' my_list (σ := Nat) (fun i c nx => nx = (rl, listOf (rvs ++ vs.take i).toArray c) :: rest) (fun _ => [(Str.ofString "self", .ref mach), (Str.ofString "base", .int (K : Int) _)]) rn rfl (.tail _ h5) F9 N9 (by simp) ?hps (.inl fun _ _ => rfl) ?turn ?done
  case hps => (try dsimp only); kst_all
  case turn =>
    rintro i v c nx u h tk own hv rfl hl hoff F₁ N₁
    dsimp only [kstB] at F₁
    obtain ⟨R, hR⟩ : ∃ R : Led, R = rest ++ own := ⟨_, rfl⟩
    have N₂ := N₁
    rw [List.cons_append, ← hR] at N₂
    have hoR : OwnOff R [rl] := by
      rw [hR]
      refine off_one fun p hp => ?_
      rcases List.mem_append.mp hp with hp | hp
      · exact ho p hp _ (.head _)
      · exact hoff p hp _ (.head _)
    have hs1 : ∀ p ∈ rest, p ∈ R := by rw [hR]; exact fun p hp => List.mem_append.mpr (.inl hp)
    have hs2 : ∀ p ∈ own, p ∈ R := by rw [hR]; exact fun p hp => List.mem_append.mpr (.inr hp)
    have g1 := hs1 _ h1
    have g2 := hs1 _ h2
    have g3 := hs1 _ h3
    have g4 := hs1 _ h4
    obtain ⟨ws, hws⟩ : ∃ ws, ws = rvs ++ vs.take i := ⟨_, rfl⟩
    rw [← hws] at N₂
    have hsz : ws.length ≤ sizeLine := size3 (k := 2000) (by rw [hws]; simp; omega) (by omega)
    clear N₁ hR
    k_steps
    rename_i F9 N9
    have e9 : (ws.toArray.push v) = (rvs ++ vs.take (i + 1)).toArray := by
      rw [List.push_toArray, hws, List.take_add_one, hv, List.append_assoc]; rfl
    rw [e9] at N9
    refine InvEndG.intro (nx := (rl, listOf (rvs ++ vs.take (i + 1)).toArray (c + 1)) :: rest) F9 N9 ⟨?_, c + 1, rfl, by kst_all⟩ hoff ?_ ?_
    · intro p hp
      rw [List.mem_singleton.mp hp]; exact .tail _ h5
    · intro p hp
      rcases List.mem_cons.mp hp with rfl | hp
      · exact .head _
      · exact .tail _ (hs1 p hp)
    · exact fun p hp => .tail _ (hs2 p hp)
  case done =>
    rintro c nx u h tk rfl hl F₁ N₁
    dsimp only [kstB] at F₁
    rw [List.take_length] at N₁
    k_steps
    exact hret _ _ _ _ ⟨_, _, rfl, rfl⟩ (by assumption) (News.sub (by assumption) (hback _))
theorem use_add_rows {dp' un' : Nat} {mean : ExcName → Option Value} {mg mb : Str → Option Value} {gd : Option (List Code)} {cn : Str} {cs : Scope} {a0 : Addr} {ccd : Value} {cl : List (Str × Addr)} {outer : List Env} {A₀ : Around} {base0 h₀ : Heap} {L0 : Addr} {m0 : Str → Option Value} {s : Shared} {Q E0 : Value → Shared → Prop} (w : World) (mach md mem cpu cdd regs rl ll src : Addr) (t t' : Nat → Tok) (y y' : Nat → Value) (pc : Int) (tp : Tok) (rvs vs : List Value) (rn sn : Nat) (news : Led) (g : Obj → Led) (h1 : (mach, instObj 407 md) ∈ news) (h2 : (md, machDict w t y mem cpu ll) ∈ news) (h3 : (cpu, instObj 259 cdd) ∈ news) (h4 : (cdd, cpuDict w t' y' regs rl pc tp) ∈ news) (h5 : (src, listOf vs.toArray sn) ∈ news) (U : UpdF rl (listOf rvs.toArray rn) news g) (n1 : mach ≠ rl) (n2 : md ≠ rl) (n3 : cpu ≠ rl) (n4 : cdd ≠ rl) (n5 : src ≠ rl) (hz : rvs.length + vs.length ≤ 1000)
    (B : Below A₀ base0 outer h₀) (F : Fr h₀ L0 s.heap m0) (X : (hd.heap_1 w.params).In h₀) (N : News h₀ L0 s.heap news) (T : Top hd.view_1 (looseW hd.view_1 []) mean mg mb h₀) (hk : cs.kind = .function) (hd' : dp' ≤ 400) (hu : un' ≤ 4000)
    (k0 : ∀ h' tk', Fr h₀ L0 h' m0 → ∀ t n', News h₀ L0 h' (g (listOf (rvs ++ vs).toArray n')) → Q (.int (rvs.length : Int) t) { s with heap := h', toks := tk' }) :
    wpAny (model PySem.Challenge.rw_nu0347_01.row.prog w) (ktrTop dp' un' gd cn cs L0 a0 ccd cl outer) (call (.ref 348) [.ref mach, .ref src]) Q E0 s :=
  Call.use B F X N T hk (add_rows_spec w mach md mem cpu cdd regs rl ll src t t' y y' pc tp rvs vs rn sn news g h1 h2 h3 h4 h5 U n1 n2 n3 n4 n5 hz) hd' hu fun r news' h' tk' hp F' N' => by
    obtain ⟨t, n', rfl, rfl⟩ := hp
    exact k0 _ _ F' t n' N'
set_option maxHeartbeats 2000000
theorem fill_C9 : (fun (_ : OpenLaw) (_ : Params → Frag) => True) PySem.Challenge.rw_nu0347_01 hd.heap_1 := by
  w_top off
  k_fill
  trivial
theorem range_facts : ∀ n : Nat, n < 8 → Builtin.Range.small 0 (n : Int) 1 = true ∧ Builtin.Range.rangeSize 0 (n : Int) 1 = (n : Int) := by decide +kernel
theorem one_times {prog : Program} {w : World} {A : Around} {E : Value → Shared → Prop} {s : Shared} {h₀ : Heap} {L l : Addr} {m : Str → Option Value} {news : Led} {v : Value} {k : Nat} {x : Int} {u : Tok} {Q : Value → Shared → Prop} (F : Fr h₀ L s.heap m) (N : News h₀ L s.heap news) (hp : (l, listOf [v].toArray k) ∈ news) (hlo : 0 ≤ x) (hhi : x ≤ 1000)
    (h : ∀ l' h', Fr h₀ L h' m → News h₀ L h' ((l', listOf (List.replicate x.toNat v).toArray 0) :: news) → (∀ p ∈ news, p.1 < l') → Q (.ref l') { s with heap := h' }) : wpAny (model prog w) A (binaryOp .Mult (.ref l) (.int x u)) Q E s := by
  refine mul_list F N (N _ hp).1 (by omega) (by omega) (by simp only [List.size_toArray, List.length_singleton]; omega) fun h' F' N' => ?_
  refine h _ h' F' ?_ (fun p hp => Heap.lt_size (N p hp).1)
  simpa [listMul_foldl] using N'
theorem line_16 : True := by
  (k_with "binaryOp Mult ref int" => (k_here; (with_reducible show wpAny _ _ (binaryOp Operator.Mult (Value.ref _) (Value.int _ _)) _ _ _); k_dflt ((refine' one_times ?q9F ?q9N ?q9hp ?q9lo ?q9hi ?_; (case q9F => k_asm); (case q9N => k_asm); (case q9hp => k_mem); (case q9lo => first | omega | (k_fmods; omega)); (case q9hi => first | omega | (k_fmods; omega))); intro _ _ _ _; intro q1; (try k_lt q1); revert q1; intro _; (try k_sweep))))
  trivial
theorem slice_take {prog : Program} {w : World} {A : Around} {E : Value → Shared → Prop} {s : Shared} {h₀ : Heap} {L l : Addr} {m : Str → Option Value} {news : Led} {value slice : PySem.Expr} {vs : List Value} {n : Nat} {k : Int} {u : Tok} {Q : Value → Shared → Prop} (F : Fr h₀ L s.heap m) (N : News h₀ L s.heap news)
    (hp : (l, listOf vs.toArray n) ∈ news) (h0 : 0 ≤ k) (hz : vs.length ≤ sizeLine) (h : ∀ D h', Fr h₀ L h' m → News h₀ L h' ((D, listOf (vs.take k.toNat).toArray 0) :: news) → (∀ p ∈ news, p.1 < D) → Q (.ref D) { s with heap := h' })
    (hs : subscripted slice false (.ref l) (.ref s.heap.objs.size) = operate [.ref s.heap.objs.size, .ref l] (getItem (.ref l) (.ref s.heap.objs.size))) (ht : ∀ r, letTemporaryGo value (.ref l) r = pure ()) :
    wpAny (model prog w) A (subscriptTail value slice (.ref l) (.ref s.heap.objs.size)) Q E { s with heap := s.heap.push { cls := .type "slice", data := .fields #[.none, .int k u, .none] } } := by
  have hl : s.heap.IsList l vs.toArray := ⟨_, (N _ hp).1, rfl, n, rfl⟩
  refine kmk_slice F N hl .none (.int k u) (fun D h' F' N' l1 => h D h' F' ?_ l1) hs ht (by rw [List.size_toArray]; exact hz)
  obtain ⟨j, rfl⟩ : ∃ j : Nat, k = (j : Int) := ⟨k.toNat, by omega⟩
  rw [slicePick_upto'] at N'
  simpa using N'
theorem line_17 : True := by
  (k_with "subscriptTail" => (k_here; (with_reducible show wpAny _ _ (subscriptTail _ (PySem.Expr.Slice none (some _) none _) (Value.ref _) (Value.ref _)) _ _ _); k_dflt ((try (refine kba_turn (value' := PySem.Expr.Name (PySem.Str.ofString "_") ⟨0, 0, 0, 0⟩) (fun _ => rfl) ?_)); (refine' slice_take ?q9F ?q9N ?q9hp ?q9a ?q9z ?_ ?q9hs ?q9ht; (case q9F => k_asm); (case q9N => k_asm); (case q9hp => k_mem); (case q9a => first | k_asm | omega); (case q9z => first | exact Nat.le_of_ble_eq_true rfl | k_asm); (case q9hs => with_unfolding_all rfl); (case q9ht => (intro _; with_unfolding_all rfl))); intro _ _ _ _; intro q1; (try k_lt q1); revert q1; intro _; (try k_sweep))))
  trivial
theorem set_strs {w : World} {A : Around} {E : Value → Shared → Prop} {s : Shared} {h₀ : Heap} {L d : Addr} {m : Str → Option Value} {news : Led} {g : Obj → Led} {o : Obj} {kvs : List (Str × Value)} {k : Str} {tk : Tok} {v : Value} {Q : Unit → Shared → Prop} (F : Fr h₀ L s.heap m) (N : News h₀ L s.heap news) (U : UpdF d o news g)
    (hD : o.IsDictOf (PySem.strKind PySem.Challenge.rw_nu0347_01.row.prog w) kvs) (hz : kvs.length ≤ sizeLine)
    (h : ∀ h' o', Fr h₀ L h' m → News h₀ L h' (g o') → o'.IsDictOf (PySem.strKind PySem.Challenge.rw_nu0347_01.row.prog w) (stored kvs k v) → Q () { s with heap := h', toks := s.toks + 1 }) :
    wpAny (model PySem.Challenge.rw_nu0347_01.row.prog w) A (setItem (.ref d) (.str k tk) v) Q E s := kda_set F N U hD (strKind_is _ _ _ _) hz h
theorem line_18 : True := by
  (k_with "setItem ref str" => (k_here; k_dflt ((refine' set_strs ?q9F ?q9N ?q9U ?q9hD ?q9z ?_; (case q9F => k_asm); (case q9N => k_asm); (case q9U => k_updF); (case q9hD => k_asm); (case q9z => k_asm)); intro _ _ _; intro N'; (try dsimp only at N'); revert N'; intro _; intro _; (try k_sweep))))
  trivial
theorem cmds_step {kvs : List (Str × Value)} {cs : List Int} {i : Nat} {wd : Str} (h : CmdsAre kvs cs) (hl : cs.length = i) (hw : [Str.ofString "P", Str.ofString "Q", Str.ofString "R"][i]? = some wd) (x : Int) (t : Tok) : CmdsAre (stored kvs wd (.int x t)) (cs ++ [x]) := by
  rcases h with ⟨rfl, rfl⟩ | ⟨a, ta, rfl, rfl⟩ | ⟨a, ta, b, tb, rfl, rfl⟩ | ⟨a, ta, b, tb, c, tc, rfl, rfl⟩
  · subst hl; simp at hw; subst hw
    exact .inr (.inl ⟨x, t, rfl, rfl⟩)
  · subst hl; simp at hw; subst hw
    exact .inr (.inr (.inl ⟨a, ta, x, t, rfl, rfl⟩))
  · subst hl; simp at hw; subst hw
    exact .inr (.inr (.inr ⟨a, ta, b, tb, x, t, rfl, rfl⟩))
  · subst hl; simp at hw
theorem menu_kind {prog : Program} {w : World} {A : Around} {E : Value → Shared → Prop} {s : Shared} {h₀ : Heap} {L l : Addr} {news : Led} {n : Nat} {t0 t1 u : Tok} {k : Int} {value slice : PySem.Expr} {Q : Value → Shared → Prop} (N : News h₀ L s.heap news)
    (hp : (l, listOf #[.str (Str.ofString "code") t0, .str (Str.ofString "data") t1] n) ∈ news) (h0 : 0 ≤ k) (h2 : k < 2) (h : ∀ (b : Bool) (tk : Tok), Q (.str (bif b then Str.ofString "code" else Str.ofString "data") tk) s)
    (hs : subscripted slice false (.ref l) (.int k u) = operate [.ref l, .int k u] (getItem (.ref l) (.int k u)) := by with_unfolding_all rfl) :
    wpAny (model prog w) A (subscriptTail value slice (.ref l) (.int k u)) Q E s := by
  have hl : s.heap.IsList l #[.str (Str.ofString "code") t0, .str (Str.ofString "data") t1] := ⟨_, (N _ hp).1, rfl, n, rfl⟩
  by_cases e : k = 0
  · subst e
    exact tail_any hl.typeIs slot_list_getitem.lookup (wpAny_getItem_list hl (by omega) (by omega) (x := .str (Str.ofString "code") t0) rfl (h true t0)) hs
  · have e1 : k = 1 := by omega
    subst e1
    exact tail_any hl.typeIs slot_list_getitem.lookup (wpAny_getItem_list hl (by omega) (by omega) (x := .str (Str.ofString "data") t1) rfl (h false t1)) hs
theorem line_19 : True := by
  (k_with "subscriptTail" => (k_here; (with_reducible show wpAny _ _ (subscriptTail _ _ (Value.ref _) (Value.int (Int.fmod _ _) _)) _ _ _); k_dflt ((refine' menu_kind ?q9N ?q9hp ?q9a ?q9b ?_ ?q9hs; (case q9N => k_asm); (case q9hp => k_mem); (case q9a => k_asm); (case q9b => k_asm); (case q9hs => with_unfolding_all rfl)); intro _ _)))
  trivial
theorem EntsAre.snoc {news : Led} {T : Addr} {tk tt : Tok} {b : Bool} {x : Int} {n : Nat} (h : (T, ({ cls := .type "tuple", data := .seq #[.str (bif b then Str.ofString "code" else Str.ofString "data") tk, .int x tt] n } : Obj)) ∈ news) : ∀ {vs : List Value} {es : List (Bool × Int)}, EntsAre news vs es → EntsAre news (vs ++ [.ref T]) (es ++ [(b, x)])
  | _, _, .nil => .cons h .nil
  | _, _, .cons h' r => .cons h' (EntsAre.snoc h r)
theorem law_object_spec (w : World) (row : Addr) (vs : List Value) (n : Nat) (name : Str) (tn : Tok) (news : Led) (g : Obj → Led) (U : UpdF row (listOf vs.toArray n) news g) (hr : RowOk vs) :
    Call 390 3900 w 453 [.ref row, .str name tn] news (fun r news' => ∃ ob objs d vs' n', r = .ref ob ∧ news' = objs ++ g (listOf vs'.toArray n') ∧ RowOk vs' ∧ ObjAt w objs ob name d ∧ d.Ok ∧ ∀ p ∈ objs, ∀ q ∈ news, q.1 < p.1) := by
  obtain ⟨pre, post, rfl, hg, hp1, hp2⟩ := U.split
  unfold Call
  intro mean mg mb gd cn cs a ccd cl outer A₀ base h₀ L m s Q E B F X N T hk hret
  have N1 : News h₀ L s.heap ((row, listOf vs.toArray n) :: (pre ++ post)) := News.sub N (by walk_at "m_sub")
  have ho : OwnOff (pre ++ post) [row] := off_one (fun p hp => (List.mem_append.mp hp).elim (hp1 p) (hp2 p))
  have hback : ∀ o', ∀ p ∈ g o', p ∈ (row, o') :: (pre ++ post) := by
    intro o'
    rw [hg]
    walk_at "m_sub"
  clear N
  generalize hrest : pre ++ post = rest at *
  walk_at "m_enter"
  k_steps
  rename_i xo dx _ el cd tf yf _ oc lo hs q1 q2 q3 q4 _ _ _ _ _ _ X0 _ _ _ _ _ _ u1 u2 _ _ _ _ _ _ _ _ _ _ D0 _ _ _ _ _ rl2 _ l1c _ _ _ TB X1 _ _ _ _ _ _ _ _ _ _ _ _ _ _ _ _ _ _ _ _ X2 _ vr nr u5 _ hrr _ _ _ u3 u4 _ _ _ _ _ _ _ _ _ RR FF NN _
  clear hr U
  obtain ⟨M, hM⟩ : ∃ M, M = 1 + X0.fmod 12 := ⟨_, rfl⟩
  rw [← hM] at NN FF
  have hM1 : 1 ≤ M := by omega
  have hM2 : M ≤ 12 := by omega
  obtain ⟨Bd, hBd⟩ : ∃ Bd, Bd = X1.fmod M := ⟨_, rfl⟩
  rw [← hBd] at NN
  have hB0 : 0 ≤ Bd := by rw [hBd]; exact Int.fmod_nonneg_of_pos _ (by omega)
  obtain ⟨En, hEn, hE4⟩ : ∃ En : Nat, X2.fmod 4 = (En : Int) ∧ En < 4 := ⟨(X2.fmod 4).toNat, by omega, by omega⟩
  rw [hEn] at RR
  have N2 := News.sub (l' := (el, listOf #[] 0) :: (row, listOf vr.toArray nr) :: (cd, oc) :: (rl2, listOf (List.replicate M.toNat (Value.ref D0)).toArray 0) :: (xo, instObj 428 dx) :: (dx, objDict w tf yf name rl2 el cd Bd TB) :: rest) NN (by
    intro p hp
    rcases List.mem_cons.mp hp with rfl | hp
    · k_mem
    rcases List.mem_cons.mp hp with rfl | hp
    · k_mem
    rcases List.mem_cons.mp hp with rfl | hp
    · k_mem
    rcases List.mem_cons.mp hp with rfl | hp
    · k_mem
    rcases List.mem_cons.mp hp with rfl | hp
    · k_mem
    rcases List.mem_cons.mp hp with e | hp
    · rw [e]; k_mem
    · iterate 8 (refine List.mem_cons_of_mem _ ?_)
      exact hp)
  clear NN
  have hlt0 : ∀ q ∈ (row, listOf vs.toArray n) :: rest, q.1 < dx := by
    intro q hq
    rcases List.mem_cons.mp hq with rfl | hq
    · exact q1.1
    · exact tb_ltOf q1.2 q hq
  have r0 : row < dx := q1.1
  have r1 : dx < xo := q2
  have r2 : xo < el := q3
  have r3 : el < cd := q4
  have r4 : cd < rl2 := l1c.2.2.2.1
  obtain ⟨keep, hkeep⟩ : ∃ keep : Led, keep = (rl2, listOf (List.replicate M.toNat (Value.ref D0)).toArray 0) :: (xo, instObj 428 dx) :: (dx, objDict w tf yf name rl2 el cd Bd TB) :: rest := ⟨_, rfl⟩
  rw [← hkeep] at N2
  have hoffK : OwnOff keep [el, row, cd] := by
    rw [hkeep]
    intro p hp b hb
    rcases List.mem_cons.mp hp with rfl | hp
    · simp only [List.mem_cons, List.not_mem_nil, or_false] at hb
      rcases hb with rfl | rfl | rfl <;> (refine neN ?_; dsimp only; omega)
    rcases List.mem_cons.mp hp with rfl | hp
    · simp only [List.mem_cons, List.not_mem_nil, or_false] at hb
      rcases hb with rfl | rfl | rfl <;> (refine neN ?_; dsimp only; omega)
    rcases List.mem_cons.mp hp with rfl | hp
    · simp only [List.mem_cons, List.not_mem_nil, or_false] at hb
      rcases hb with rfl | rfl | rfl <;> (refine neN ?_; dsimp only; omega)
    have h9 := tb_ltOf q1.2 p hp
    simp only [List.mem_cons, List.not_mem_nil, or_false] at hb
    rcases hb with rfl | rfl | rfl
    · exact Nat.ne_of_lt (Nat.lt_trans h9 (Nat.lt_trans r1 r2))
    · exact ho p hp _ (.head _)
    · exact Nat.ne_of_lt (Nat.lt_trans h9 (Nat.lt_trans r1 (Nat.lt_trans r2 r3)))
  have kx : (xo, instObj 428 dx) ∈ keep := by rw [hkeep]; exact .tail _ (.head _)
  have kd : (dx, objDict w tf yf name rl2 el cd Bd TB) ∈ keep := by rw [hkeep]; exact .tail _ (.tail _ (.head _))
  have kr : (rl2, listOf (List.replicate M.toNat (Value.ref D0)).toArray 0) ∈ keep := by rw [hkeep]; exact .head _
  have krest : ∀ p ∈ rest, p ∈ keep := by rw [hkeep]; exact fun p hp => .tail _ (.tail _ (.tail _ hp))
  refine' my_range (σ := List Value × Nat × Led × List Value × Nat × List (Bool × Int)) (n := En) (fun i c nx => nx = (el, listOf c.1.toArray c.2.1) :: (row, listOf c.2.2.2.1.toArray c.2.2.2.2.1) :: (cd, oc) :: (c.2.2.1 ++ keep) ∧ EntsAre c.2.2.1 c.1 c.2.2.2.2.2 ∧ RowOk c.2.2.2.1 ∧ (∀ e ∈ c.2.2.2.2.2, 0 ≤ e.2) ∧ c.1.length = i ∧ OwnOff (c.2.2.1 ++ keep) [el, row, cd] ∧ ∀ p ∈ c.2.2.1, dx < p.1)
    (fun _ => [(Str.ofString "row", .ref row), (Str.ofString "one", .ref xo), (Str.ofString "many", .int M _)]) ([], 0, [], vr, nr, []) rfl RR (range_facts En (by omega)).1 (range_facts En (by omega)).2 (by assumption) N2 ⟨rfl, .nil, hrr, by simp, rfl, hoffK, fun _ hp => nomatch hp⟩ ?hps ?turn ?done
  case hps => (try dsimp only); kst_all
  case turn =>
    rintro i t ⟨evs, en, tups, vr, nr, es⟩ nx u h tk own hi ⟨rfl, hE, hrr, hpos, hlen, hoT, hlt⟩ hoff F₁ N₁
    dsimp only at hE hrr hpos hlen hoT hlt hoff N₁
    dsimp only [kstB] at F₁
    obtain ⟨R, hR⟩ : ∃ R : Led, R = (tups ++ keep) ++ own := ⟨_, rfl⟩
    have N₂ := N₁
    rw [List.cons_append, List.cons_append, List.cons_append, ← hR] at N₂
    have hoR : OwnOff R [el, row, cd] := by
      rw [hR]
      intro p hp b hb
      rcases List.mem_append.mp hp with hp | hp
      · exact hoT p hp b hb
      · refine hoff p hp b ?_
        simp only [List.mem_cons, List.not_mem_nil, or_false] at hb
        simp only [List.map_cons, List.mem_cons]
        rcases hb with rfl | rfl | rfl <;> simp
    have hs1 : ∀ p ∈ tups ++ keep, p ∈ R := by rw [hR]; exact fun p hp => List.mem_append.mpr (.inl hp)
    have hs2 : ∀ p ∈ own, p ∈ R := by rw [hR]; exact fun p hp => List.mem_append.mpr (.inr hp)
    have hs3 : ∀ p ∈ keep, p ∈ R := fun p hp => hs1 p (List.mem_append.mpr (.inr hp))
    have kx' := hs3 _ kx
    have kd' := hs3 _ kd
    have hsz : evs.length ≤ sizeLine := size3 (k := 200) (by omega) (by omega)
    clear N₁ hR
    k_steps
    rename_i L9 _ l8 _ _ _ _ _ _ _ _ _ _ _ _ _ _ _ _ _ b9 tb9 _ tx9 x9 _ vs9 n9 _ _ hr9 _ _ _ _ _ _ _ _ T9 _ l9 _ F9 N9
    simp only [List.push_toArray] at N9
    refine InvEndG.intro (nx := (el, listOf (evs ++ [Value.ref T9]).toArray (en + 1)) :: (row, listOf vs9.toArray n9) :: (cd, oc) :: (((T9, ({ cls := .type "tuple", data := .seq #[.str (bif b9 then Str.ofString "code" else Str.ofString "data") tb9, .int (x9.fmod M) tx9] 0 } : Obj)) :: tups) ++ keep)) F9 N9
      ⟨(fun _ hp => nomatch hp), (evs ++ [Value.ref T9], en + 1, (T9, _) :: tups, vs9, n9, es ++ [(b9, x9.fmod M)]), ⟨rfl, ?_, hr9, ?_, by simp [hlen], ?_, ?_⟩, by kst_all⟩ ?_ ?_ ?_
    · exact EntsAre.snoc (.head _) (hE.mono fun p hp => .tail _ hp)
    · intro e he
      rcases List.mem_append.mp he with he | he
      · exact hpos e he
      · rw [List.mem_singleton.mp he]; exact Int.fmod_nonneg_of_pos _ (by omega)
    · intro p hp b hb
      rcases List.mem_cons.mp hp with rfl | hp
      · simp only [List.mem_cons, List.not_mem_nil, or_false] at hb
        rcases hb with rfl | rfl | rfl
        · exact Nat.ne_of_gt l9.2.1
        · exact Nat.ne_of_gt l9.2.2.1
        · exact Nat.ne_of_gt l9.2.2.2.1
      · exact hoT p hp b hb
    · intro p hp
      rcases List.mem_cons.mp hp with rfl | hp
      · exact Nat.lt_trans r1 (Nat.lt_trans r2 l9.2.1)
      · exact hlt p hp
    · intro p hp b hb
      simp only [List.map_cons, List.cons_append, List.mem_cons] at hb
      rcases hb with rfl | rfl | rfl | rfl | hb
      · exact hoff p hp _ (by simp)
      · exact hoff p hp _ (by simp)
      · exact hoff p hp _ (by simp)
      · exact Nat.ne_of_lt (tb_ltOf l9.2.2.2.2 p (hs2 p hp))
      · exact hoff p hp _ (by simp only [List.map_cons, List.mem_cons]; exact .inr (.inr (.inr hb)))
    · intro p hp
      rcases List.mem_cons.mp hp with rfl | hp
      · exact .tail _ (.tail _ (.head _))
      rcases List.mem_cons.mp hp with rfl | hp
      · exact .tail _ (.tail _ (.tail _ (.head _)))
      rcases List.mem_cons.mp hp with rfl | hp
      · exact .tail _ (.tail _ (.tail _ (.tail _ (.head _))))
      rcases List.mem_cons.mp hp with rfl | hp
      · exact .head _
      · exact .tail _ (.tail _ (.tail _ (.tail _ (.tail _ (hs1 p hp)))))
    · exact fun p hp => .tail _ (.tail _ (.tail _ (.tail _ (.tail _ (hs2 p hp)))))
  case done =>
    rintro ⟨evs, en, tups, vr, nr, es⟩ nx u h tk ⟨rfl, hE, hrr, hpos, hlen, hoT, hlt⟩ F₁ N₁
    dsimp only at hE hrr hpos hlen hoT hlt N₁
    dsimp only [kstB] at F₁
    obtain ⟨R1, hR1⟩ : ∃ R1 : Led, R1 = (el, listOf evs.toArray en) :: (tups ++ keep) := ⟨_, rfl⟩
    have N₂ := News.sub (l' := (row, listOf vr.toArray nr) :: (cd, oc) :: R1) N₁ (by rw [hR1]; walk_at "m_sub")
    have hoR : OwnOff R1 [row, cd] := by
      rw [hR1]
      intro p hp b hb
      simp only [List.mem_cons, List.not_mem_nil, or_false] at hb
      rcases List.mem_cons.mp hp with rfl | hp
      · rcases hb with rfl | rfl <;> (refine neN ?_; dsimp only; omega)
      · exact hoT p hp b (by simp only [List.mem_cons, List.not_mem_nil, or_false]; exact .inr hb)
    have kx' : (xo, instObj 428 dx) ∈ R1 := by rw [hR1]; exact .tail _ (List.mem_append.mpr (.inr kx))
    have kd' : (dx, objDict w tf yf name rl2 el cd Bd TB) ∈ R1 := by rw [hR1]; exact .tail _ (List.mem_append.mpr (.inr kd))
    clear N₁
    k_steps
    rename_i L9 _ _ _ _ _ _ XK _ vr2 nr2 _ _ hrr2 _ _ um3 um4 _ _ _ _ DL _ _ NL lD
    obtain ⟨wvs, hwvs⟩ : ∃ wvs, wvs = List.take (XK.fmod 4).toNat [Value.str (Str.ofString "P") tk, Value.str (Str.ofString "Q") (tk + 1), Value.str (Str.ofString "R") (tk + 1 + 1)] := ⟨_, rfl⟩
    rw [← hwvs] at NL
    have N3 := News.sub (l' := (DL, listOf wvs.toArray 0) :: (row, listOf vr2.toArray nr2) :: (cd, oc) :: R1) NL (by walk_at "m_sub")
    refine' my_list (σ := Obj × List (Str × Value) × List Value × Nat × List Int) (fun i c nx => nx = (DL, listOf wvs.toArray 0) :: (row, listOf c.2.2.1.toArray c.2.2.2.1) :: (cd, c.1) :: R1 ∧ c.1.IsDictOf (PySem.strKind PySem.Challenge.rw_nu0347_01.row.prog w) c.2.1 ∧ RowOk c.2.2.1 ∧ CmdsAre c.2.1 c.2.2.2.2 ∧ c.2.2.2.2.length = i ∧ ∀ e ∈ c.2.2.2.2, 0 ≤ e)
      (fun _ => [(Str.ofString "row", .ref row), (Str.ofString "one", .ref xo), (Str.ofString "many", .int M _)]) (oc, [], vr2, nr2, []) rfl (.head _) (by assumption) N3 ⟨rfl, hs, hrr2, .inl ⟨rfl, rfl⟩, rfl, by simp⟩ ?hps (.inl fun _ _ => rfl) ?turn ?done
    case hps => (try dsimp only); kst_all
    case turn =>
      rintro i v ⟨o', kvs, vr, nr, cs⟩ nx u h tk own hv ⟨rfl, hD, hrr, hC, hlen, hpos⟩ hl hoff F₁ N₁
      dsimp only at hD hrr hC hlen hpos hl hoff N₁
      dsimp only [kstB] at F₁
      have hi : i < 3 := by
        have := (List.getElem?_eq_some_iff.mp hv).1
        rw [hwvs] at this
        simp at this; omega
      obtain ⟨wd, tw, rfl, hw⟩ : ∃ wd tw, v = .str wd tw ∧ [Str.ofString "P", Str.ofString "Q", Str.ofString "R"][i]? = some wd := by
        rw [hwvs, List.getElem?_take] at hv
        split at hv
        · match i, hi with
          | 0, _ => simp at hv; exact ⟨_, _, hv.symm, rfl⟩
          | 1, _ => simp at hv; exact ⟨_, _, hv.symm, rfl⟩
          | 2, _ => simp at hv; exact ⟨_, _, hv.symm, rfl⟩
        · cases hv
      obtain ⟨R, hR⟩ : ∃ R : Led, R = R1 ++ own := ⟨_, rfl⟩
      have N₂ := N₁
      rw [List.cons_append, List.cons_append, List.cons_append, ← hR] at N₂
      have hoR2 : OwnOff R [row, cd, DL] := by
        rw [hR]
        intro p hp b hb
        simp only [List.mem_cons, List.not_mem_nil, or_false] at hb
        rcases List.mem_append.mp hp with hp | hp
        · rcases hb with rfl | rfl | rfl
          · exact hoR p hp _ (.head _)
          · exact hoR p hp _ (.tail _ (.head _))
          · exact Nat.ne_of_lt (tb_ltOf lD.2.2.2 p hp)
        · refine hoff p hp b ?_
          simp only [List.map_cons, List.mem_cons]
          rcases hb with rfl | rfl | rfl <;> simp
      have hs1 : ∀ p ∈ R1, p ∈ R := by rw [hR]; exact fun p hp => List.mem_append.mpr (.inl hp)
      have hs2 : ∀ p ∈ own, p ∈ R := by rw [hR]; exact fun p hp => List.mem_append.mpr (.inr hp)
      have kx'' := hs1 _ kx'
      have kd'' := hs1 _ kd'
      have hkl : kvs.length ≤ sizeLine := size3 (k := 3) (by have := hC.length; have : (wordsOf cs).length ≤ 3 := (by simp [wordsOf]; omega); omega) (by omega)
      clear N₁ hR
      k_steps
      rename_i x9 _ vs9 n9 _ _ hr9 _ _ _ _ _ _ _ _ _ o9 F9 N9 hD9
      refine InvEndG.intro (nx := (DL, listOf wvs.toArray 0) :: (row, listOf vs9.toArray n9) :: (cd, o9) :: R1) F9 N9
        ⟨(by intro p hp; rw [List.mem_singleton.mp hp]; exact .head _), (o9, _, vs9, n9, cs ++ [x9.fmod M]), ⟨rfl, hD9, hr9, cmds_step hC hlen hw _ _, by simp [hlen], ?_⟩, by kst_all⟩ ?_ ?_ ?_
      · intro e he
        rcases List.mem_append.mp he with he | he
        · exact hpos e he
        · rw [List.mem_singleton.mp he]; exact Int.fmod_nonneg_of_pos _ (by omega)
      · exact hoff
      · intro p hp
        rcases List.mem_cons.mp hp with rfl | hp
        · exact .head _
        rcases List.mem_cons.mp hp with rfl | hp
        · exact .tail _ (.head _)
        rcases List.mem_cons.mp hp with rfl | hp
        · exact .tail _ (.tail _ (.head _))
        · exact .tail _ (.tail _ (.tail _ (hs1 p hp)))
      · exact fun p hp => .tail _ (.tail _ (.tail _ (hs2 p hp)))
    case done =>
      rintro ⟨o', kvs, vr, nr, cs⟩ nx u h tk ⟨rfl, hD, hrr, hC, hlen2, hpos2⟩ hl F₁ N₁
      dsimp only at hD hrr hC hlen2 hpos2 hl N₁
      dsimp only [kstB] at F₁
      k_steps
      rename_i kN _ _
      have e0 : ∀ p ∈ R1, p = (el, listOf evs.toArray en) ∨ p ∈ tups ++ keep := by rw [hR1]; exact fun p hp => List.mem_cons.mp hp
      have f1 : ∀ p ∈ (el, listOf evs.toArray en) :: (tups ++ keep), p ∈ R1 := by rw [hR1]; exact fun p hp => hp
      obtain ⟨objs, hobjs⟩ : ∃ objs : Led, objs = (cd, o') :: (el, listOf evs.toArray en) :: (tups ++ [(rl2, listOf (List.replicate M.toNat (Value.ref D0)).toArray 0), (xo, instObj 428 dx), (dx, objDict w tf yf name rl2 el cd Bd TB)]) := ⟨_, rfl⟩
      have g1 : ∀ p ∈ tups ++ [(rl2, listOf (List.replicate M.toNat (Value.ref D0)).toArray 0), (xo, instObj 428 dx), (dx, objDict w tf yf name rl2 el cd Bd TB)], p ∈ tups ++ keep := by
        intro p hp
        rcases List.mem_append.mp hp with hp | hp
        · exact List.mem_append.mpr (.inl hp)
        · refine List.mem_append.mpr (.inr ?_)
          simp only [List.mem_cons, List.not_mem_nil, or_false] at hp
          rcases hp with e | e | e
          · rw [e]; exact kr
          · rw [e]; exact kx
          · rw [e]; exact kd
      refine hret _ (objs ++ g (listOf vr.toArray nr)) _ _ ⟨xo, objs, ⟨M.toNat, Bd, es, cs⟩, vr, nr, rfl, rfl, hrr, ?_, ?_, ?_⟩ (by assumption) (News.sub kN ?_)
      · refine ⟨dx, rl2, el, cd, tf, yf, TB, List.replicate M.toNat (Value.ref D0), evs, 0, en, o', kvs, ⟨?_, ?_, ?_, by simp, ?_, ?_, ?_, lo, hD, hC⟩⟩
        · rw [hobjs]; exact .tail _ (.tail _ (List.mem_append.mpr (.inr (.tail _ (.head _)))))
        · rw [hobjs]; exact .tail _ (.tail _ (List.mem_append.mpr (.inr (.tail _ (.tail _ (.head _))))))
        · rw [hobjs]; exact .tail _ (.tail _ (List.mem_append.mpr (.inr (.head _))))
        · rw [hobjs]; exact .tail _ (.head _)
        · rw [hobjs]; exact hE.mono fun p hp => .tail _ (.tail _ (List.mem_append.mpr (.inl hp)))
        · rw [hobjs]; exact .head _
      · exact ⟨by dsimp only; omega, hB0, hpos, by have := hE.length; dsimp only; omega, hpos2⟩
      · have hnews : ∀ q ∈ pre ++ (row, listOf vs.toArray n) :: post, q.1 < dx := by
          intro q hq
          refine hlt0 q ?_
          rw [← hrest]
          rcases List.mem_append.mp hq with hq | hq
          · exact .tail _ (List.mem_append.mpr (.inl hq))
          · rcases List.mem_cons.mp hq with hq | hq
            · rw [hq]; exact .head _
            · exact .tail _ (List.mem_append.mpr (.inr hq))
        intro p hp q hq
        have hq' := hnews q hq
        rw [hobjs] at hp
        rcases List.mem_cons.mp hp with rfl | hp
        · exact Nat.lt_trans hq' (Nat.lt_trans r1 (Nat.lt_trans r2 r3))
        rcases List.mem_cons.mp hp with rfl | hp
        · exact Nat.lt_trans hq' (Nat.lt_trans r1 r2)
        rcases List.mem_append.mp hp with hp | hp
        · exact Nat.lt_trans hq' (hlt p hp)
        simp only [List.mem_cons, List.not_mem_nil, or_false] at hp
        rcases hp with e | e | e
        · rw [e]; exact Nat.lt_trans hq' (Nat.lt_trans r1 (Nat.lt_trans r2 (Nat.lt_trans r3 r4)))
        · rw [e]; exact Nat.lt_trans hq' r1
        · rw [e]; exact hq'
      · intro p hp
        rcases List.mem_append.mp hp with hp | hp
        · rw [hobjs] at hp
          rcases List.mem_cons.mp hp with rfl | hp
          · exact .tail _ (.tail _ (.head _))
          rcases List.mem_cons.mp hp with rfl | hp
          · exact .tail _ (.tail _ (.tail _ (f1 _ (.head _))))
          · exact .tail _ (.tail _ (.tail _ (f1 _ (.tail _ (g1 p hp)))))
        · have hb := hback _ p hp
          rcases List.mem_cons.mp hb with rfl | hb
          · exact .tail _ (.head _)
          · exact .tail _ (.tail _ (.tail _ (f1 _ (.tail _ (List.mem_append.mpr (.inr (krest p hb)))))))
set_option maxHeartbeats 400000
theorem fill_C8 : (fun (_ : OpenLaw) (_ : Params → Frag) => True) PySem.Challenge.rw_nu0347_01 hd.heap_1 := by
  w_top off
  k_fill
  trivial
theorem told_spec (w : World) (mach md mem cpu ll : Addr) (t : Nat → Tok) (y : Nat → Value) (lvs : List Value) (ln : Nat) (ms : List MD) (row : Int) (tr : Tok) (news : Led)
    (h1 : (mach, instObj 407 md) ∈ news) (h2 : (md, machDict w t y mem cpu ll) ∈ news) (h3 : (ll, listOf lvs.toArray ln) ∈ news) (h4 : ModsAre w news lvs ms) :
    Call 390 3900 w 42 [.ref mach, .int row tr] news (fun r news' => (findMod ms row = none ∧ r = .none ∧ news' = news) ∨
      ∃ m T t1 t2 t3, findMod ms row = some m ∧ r = .ref T ∧ news' = (T, ({ cls := .type "tuple", data := .seq #[.str m.name t1, .int (row - m.base) t2, .str (nearest m.d (row - m.base)) t3] 0 } : Obj)) :: news ∧ ∀ q ∈ news, q.1 < T) := by
  unfold Call
  intro mean mg mb gd cn cs a ccd cl outer A₀ base h₀ L m s Q E B F X N T hk hret
  walk_at "m_enter"
  k_steps
  · exact hret _ _ _ _ (.inl ⟨by assumption, rfl, rfl⟩) (by assumption) (by assumption)
  · exact hret _ _ _ _ (.inr ⟨_, _, _, _, _, by assumption, rfl, rfl, by first | assumption | exact fun q hq => tb_ltOf (by assumption) q hq⟩) (by assumption) (by assumption)
theorem line_spec (w : World) (mach md mem cpu ll : Addr) (t : Nat → Tok) (y : Nat → Value) (lvs : List Value) (ln : Nat) (ms : List MD) (row : Int) (tr : Tok) (news : Led)
    (h1 : (mach, instObj 407 md) ∈ news) (h2 : (md, machDict w t y mem cpu ll) ∈ news) (h3 : (ll, listOf lvs.toArray ln) ∈ news) (h4 : ModsAre w news lvs ms) :
    Call 390 3900 w 467 [.ref mach, .int row tr] news (fun r news' => (∃ D, findMod ms row = none ∧ r = .ref D ∧ news' = (D, listOf #[] 0) :: news ∧ ∀ q ∈ news, q.1 < D) ∨
      ∃ m D T t1 t2 t3, findMod ms row = some m ∧ r = .ref D ∧ news' = (D, listOf #[.ref T] 0) :: (T, ({ cls := .type "tuple", data := .seq #[.str m.name t1, .int (row - m.base) t2, .str (lawName m.d (row - m.base)) t3] 0 } : Obj)) :: news ∧ (∀ q ∈ news, q.1 < T) ∧ T < D) := by
  unfold Call
  intro mean mg mb gd cn cs a ccd cl outer A₀ base h₀ L m s Q E B F X N T hk hret
  walk_at "m_enter"
  k_steps
  refine' my_list (σ := Unit) (fun i c nx => news = nx ∧ ∀ m ∈ ms.take i, inMod row m = false) (fun c => [(Str.ofString "at", .int row tr)]) () rfl h3 (by assumption) (by assumption) ⟨rfl, by simp⟩ ?hps (.inl fun _ _ => rfl) ?turn ?done
  case hps => (try dsimp only); kst_all
  case turn =>
    rintro i v c nx u h tk own hv ⟨rfl, hc⟩ hl hoff F₁ N₁
    obtain ⟨l, m, rfl, hm, ld, ob, t', y', g1, g2, g9, g0⟩ := h4.get hv
    obtain ⟨R, hR⟩ : ∃ R : Led, R = news ++ own := ⟨_, rfl⟩
    rw [← hR] at N₁
    have hs1 : ∀ p ∈ news, p ∈ R := by rw [hR]; exact fun p hp => List.mem_append.mpr (.inl hp)
    have hs2 : ∀ p ∈ own, p ∈ R := by rw [hR]; exact fun p hp => List.mem_append.mpr (.inr hp)
    have g9' := g9.mono hs1
    obtain ⟨dx, rl, el, cd, t2, y2, tb, rvs, evs, rn, en, o, kvs, g3⟩ := g9
    have g1' := hs1 _ g1
    have g2' := hs1 _ g2
    have g4 := hs1 _ g3.inst
    have g5 := hs1 _ g3.dict
    have g6 := hs1 _ g3.rows
    have g7 := g3.many
    have g8 := g0.rows
    have gE := g0.few
    dsimp only [kstB] at F₁
    clear hR
    k_steps
    · have hin : inMod row m = true := by simp only [inMod, decide_eq_true_eq]; omega
      rename_i lT _ _ _ _ lD _ _ _ _
      exact hret _ _ _ _ (.inr ⟨m, _, _, _, _, _, find_some_of hc hm hin, rfl, rfl, fun q hq => (by first | exact lT q (hs1 q hq) | exact tb_ltOf lT q (hs1 q hq)), lD.1⟩) (by assumption) (News.sub (by assumption) (fun p hp => by
        rcases List.mem_cons.mp hp with rfl | hp
        · exact .head _
        · rcases List.mem_cons.mp hp with rfl | hp
          · exact .tail _ (.head _)
          · exact .tail _ (.tail _ (hs1 p hp))))
    · refine InvEndG.intro (nx := news) (by assumption) (by assumption) ⟨(by intro p hp; rw [List.mem_singleton.mp hp]; exact hl), (), ⟨rfl, none_step hc hm (by simp only [inMod, decide_eq_false_iff_not]; omega)⟩, by kst_all⟩ hoff hs1 hs2
    · refine InvEndG.intro (nx := news) (by assumption) (by assumption) ⟨(by intro p hp; rw [List.mem_singleton.mp hp]; exact hl), (), ⟨rfl, none_step hc hm (by simp only [inMod, decide_eq_false_iff_not]; omega)⟩, by kst_all⟩ hoff hs1 hs2
  case done =>
    rintro c nx u h tk ⟨rfl, hc⟩ hl F₁ N₁
    dsimp only [kstB] at F₁
    k_steps
    exact hret _ _ _ _ (.inl ⟨_, find_none_of hc (Nat.le_of_eq h4.length.symm), rfl, rfl, by first | assumption | exact fun q hq => tb_ltOf (by assumption) q hq⟩) (by assumption) (by assumption)
theorem use_told {dp' un' : Nat} {mean : ExcName → Option Value} {mg mb : Str → Option Value} {gd : Option (List Code)} {cn : Str} {cs : Scope} {a0 : Addr} {ccd : Value} {cl : List (Str × Addr)} {outer : List Env} {A₀ : Around} {base0 h₀ : Heap} {L0 : Addr} {m0 : Str → Option Value} {s : Shared} {Q E0 : Value → Shared → Prop} (w : World) (mach md mem cpu ll : Addr) (t : Nat → Tok) (y : Nat → Value) (lvs : List Value) (ln : Nat) (ms : List MD) (row : Int) (tr : Tok) (news : Led) (h1 : (mach, instObj 407 md) ∈ news) (h2 : (md, machDict w t y mem cpu ll) ∈ news) (h3 : (ll, listOf lvs.toArray ln) ∈ news) (h4 : ModsAre w news lvs ms)
    (B : Below A₀ base0 outer h₀) (F : Fr h₀ L0 s.heap m0) (X : (hd.heap_1 w.params).In h₀) (N : News h₀ L0 s.heap news) (T : Top hd.view_1 (looseW hd.view_1 []) mean mg mb h₀) (hk : cs.kind = .function) (hd' : dp' ≤ 390) (hu : un' ≤ 3900)
    (k0 : ∀ h' tk', Fr h₀ L0 h' m0 → findMod ms row = none → News h₀ L0 h' (news) → Q (.none) { s with heap := h', toks := tk' }) (k1 : ∀ h' tk', Fr h₀ L0 h' m0 → ∀ m T t1 t2 t3, findMod ms row = some m → News h₀ L0 h' ((T, ({ cls := .type "tuple", data := .seq #[.str m.name t1, .int (row - m.base) t2, .str (nearest m.d (row - m.base)) t3] 0 } : Obj)) :: news) → (∀ q ∈ news, q.1 < T) → Q (.ref T) { s with heap := h', toks := tk' }) :
    wpAny (model PySem.Challenge.rw_nu0347_01.row.prog w) (ktrTop dp' un' gd cn cs L0 a0 ccd cl outer) (call (.ref 42) [.ref mach, .int row tr]) Q E0 s :=
  Call.use B F X N T hk (told_spec w mach md mem cpu ll t y lvs ln ms row tr news h1 h2 h3 h4) hd' hu fun r news' h' tk' hp F' N' => by
    rcases hp with ⟨f1, rfl, rfl⟩ | ⟨m1, T1, t1, t2, t3, f1, rfl, rfl, l1⟩
    · exact k0 _ _ F' f1 N'
    · exact k1 _ _ F' m1 T1 t1 t2 t3 f1 N' l1
set_option maxHeartbeats 2000000
theorem fill_CB : (fun (_ : OpenLaw) (_ : Params → Frag) => True) PySem.Challenge.rw_nu0347_01 hd.heap_1 := by
  w_top off
  k_fill
  trivial
noncomputable def Small (vs : List Value) : Prop := ∃ ns : List Int, IntsAre vs ns ∧ ∀ v ∈ ns, 0 ≤ v ∧ v < 1024
theorem ints_mem : ∀ {vs : List Value} {ns : List Int}, IntsAre vs ns → (∀ v ∈ vs, ∃ x t, v = .int x t ∧ x ∈ ns)
  | _, _, .nil => by simp
  | _, _, .cons x t r => by
    intro v hv
    rcases List.mem_cons.mp hv with rfl | hv
    · exact ⟨x, t, rfl, .head _⟩
    · obtain ⟨y, u, e, h⟩ := ints_mem r v hv
      exact ⟨y, u, e, .tail _ h⟩
theorem ints_of : ∀ {vs : List Value}, (∀ v ∈ vs, ∃ x t, v = .int x t ∧ 0 ≤ x ∧ x < 1024) → Small vs
  | [], _ => ⟨[], .nil, by simp⟩
  | v :: vs, h => by
    obtain ⟨x, t, rfl, h1, h2⟩ := h v (.head _)
    obtain ⟨ns, hi, hb⟩ := ints_of (fun v hv => h v (.tail _ hv))
    exact ⟨x :: ns, .cons x t hi, fun y hy => (List.mem_cons.mp hy).elim (fun e => by rw [e]; exact ⟨h1, h2⟩) (hb y)⟩
theorem Small.all {vs : List Value} (h : Small vs) : ∀ v ∈ vs, ∃ x t, v = .int x t ∧ 0 ≤ x ∧ x < 1024 := by
  obtain ⟨ns, hi, hb⟩ := h
  intro v hv
  obtain ⟨x, t, e, hx⟩ := ints_mem hi v hv
  exact ⟨x, t, e, hb x hx⟩
theorem Small.row {vs : List Value} (h : Small vs) : RowOk (vs.take 160).reverse := by
  obtain ⟨ns, hi, hb⟩ := ints_of (vs := (vs.take 160).reverse) (fun v hv => h.all v (List.mem_of_mem_take (List.mem_reverse.mp hv)))
  exact ⟨ns, hi, hb, by simp; omega⟩
theorem Small.snoc {vs : List Value} {x : Int} {t : Tok} (h : Small vs) (h1 : 0 ≤ x) (h2 : x < 1024) : Small (vs ++ [.int x t]) := by
  refine ints_of fun v hv => ?_
  rcases List.mem_append.mp hv with hv | hv
  · exact h.all v hv
  · rw [List.mem_singleton.mp hv]; exact ⟨x, t, rfl, h1, h2⟩
theorem updF_upd {d : Addr} {o : Obj} {o' : Obj} : ∀ {l : Led} {g : Obj → Led}, UpdF d o l g → Upd d o o' l (g o')
  | _, _, .head h => .head h
  | _, _, .tail h r => .tail h (updF_upd r)
theorem rev_mem {prog : Program} {w : World} {A : Around} {E : Value → Shared → Prop} {s : Shared} {h₀ : Heap} {L D : Addr} {m : Str → Option Value} {vs : List Value} {n : Nat} {news : Led} {g : Obj → Led} {Q : Value → Shared → Prop} (F : Fr h₀ L s.heap m) (N : News h₀ L s.heap news) (U : UpdF D (listOf vs.toArray n) news g) (hz : vs.length ≤ sizeLine)
    (h : ∀ h', Fr h₀ L h' m → News h₀ L h' (g (listOf vs.reverse.toArray n)) → Q .none { s with heap := h' }) : wpAny (model prog w) A (call (.builtin "list.reverse") [.ref D]) Q E s := by
  exact kl_reverse (its := vs.toArray) (l := vs.reverse) F N (by simp) (updF_upd U) (by simpa using hz) (fun h' F' N' => h h' F' N')
theorem line_20 : True := by
  (k_with "call builtin:list.reverse" => (k_here; (with_reducible show wpAny _ _ (call (Value.builtin _) [Value.ref _]) _ _ _); k_dflt (refine' rev_mem ?q9F ?q9N ?q9U ?q9z ?_; (case q9F => k_asm); (case q9N => k_asm); (case q9U => k_updF); (case q9z => first | k_asm | (simp only [List.length_take]; rw [sizeLine_eq]; omega))); intro _ _; intro N'; (try dsimp only at N'); revert N'; intro _; (try k_sweep)))
  (k_with "subscriptTail Name Slice ref ref" => (k_here; (with_reducible show wpAny _ _ (subscriptTail _ (PySem.Expr.Slice none (some _) none _) (Value.ref _) (Value.ref _)) _ _ _); k_dflt ((try (refine kba_turn (value' := PySem.Expr.Name (PySem.Str.ofString "_") ⟨0, 0, 0, 0⟩) (fun _ => rfl) ?_)); (refine' slice_take ?q9F ?q9N ?q9hp ?q9a ?q9z ?_ ?q9hs ?q9ht; (case q9F => k_asm); (case q9N => k_asm); (case q9hp => k_mem); (case q9a => first | k_asm | omega); (case q9z => first | exact Nat.le_of_ble_eq_true rfl | k_asm); (case q9hs => with_unfolding_all rfl); (case q9ht => (intro _; with_unfolding_all rfl))); intro _ _ _ _; intro q1; (try k_lt q1); revert q1; intro _; (try k_sweep))))
  (k_with "eval IfExp" => (k_here; (with_reducible show wpAny _ _ (eval (PySem.Expr.IfExp _ (PySem.Expr.Name (Str.ofString "cell") _) _ _) _) _ _ _); k_dflt (refine (show HereStop (wpAny _ _ _ _ _ _) from ?_))))
  trivial
theorem law_row_spec (w : World) (sl : Addr) (svs : List Value) (sns : List Int) (hsi : IntsAre svs sns) (hsl : sns.length ≤ 63) (mean : ExcName → Option Value) (mg mb : Str → Option Value) (gd : Option (List Code)) (cn : Str) (cs : Scope) (a : Addr) (ccd : Value) (cl : List (Str × Addr)) (outer : List Env) (A₀ : Around) (base h₀ : Heap) (L : Addr) (m : Str → Option Value) (s : Shared)
    (Q E : Value → Shared → Prop) (B : Below A₀ base outer h₀) (F : Fr h₀ L s.heap m) (X : (hd.heap_1 w.params).In h₀) (N : News h₀ L s.heap []) (T : Top hd.view_1 (looseW hd.view_1 []) mean mg mb h₀) (hk : cs.kind = .function) (hS : h₀.IsList sl svs.toArray)
    (hret : ∀ l vs n h' tk', RowOk vs → Fr h₀ L h' m → News h₀ L h' [(l, listOf vs.toArray n)] → Q (.ref l) { s with heap := h', toks := tk' }) :
    wpAny (model PySem.Challenge.rw_nu0347_01.row.prog w) (ktrTop 390 3900 gd cn cs L a ccd cl outer) (call (.ref 439) [.ref sl]) Q E s := by
  walk_at "m_enter"
  have hS2 := Fr.lst (by assumption) hS
  k_steps
  rename_i RL _ _ _ DL ws _ F1 N1 hI hC hL lD
  have hwl : ws.length ≤ 40 := by rw [hI.length]; omega
  refine' my_list (σ := List Value × Nat) (fun i c nx => nx = (RL, listOf c.1.toArray c.2) :: [(DL, listOf ws.toArray 0)] ∧ Small c.1 ∧ c.1.length ≤ 31 * i)
    (fun _ => [(Str.ofString "row", .ref RL)]) ([], 0) rfl (.tail _ (.head _)) F1 (News.sub (l' := (RL, listOf #[] 0) :: [(DL, listOf ws.toArray 0)]) N1 (by walk_at "m_sub")) ⟨rfl, ⟨[], .nil, by simp⟩, by simp⟩ ?hps (.inl fun _ _ => rfl) ?turn ?done
  case hps => (try dsimp only); kst_all
  case turn =>
    rintro i v ⟨rv, rn⟩ nx u h tk own hv ⟨rfl, hSm, hlen⟩ hl hoff F₁ N₁
    obtain ⟨xv, tv, rfl, _⟩ := ints_mem hI v (List.mem_of_getElem? hv)
    have hi : i < 40 := Nat.lt_of_lt_of_le (List.getElem?_eq_some_iff.mp hv).1 hwl
    dsimp only at hSm hlen hl hoff N₁
    dsimp only [kstB] at F₁
    obtain ⟨R, hR⟩ : ∃ R : Led, R = [(DL, listOf ws.toArray 0)] ++ own := ⟨_, rfl⟩
    have N₂ := N₁
    rw [List.cons_append, ← hR] at N₂
    have hoR : OwnOff R [RL] := by
      rw [hR]
      refine off_one fun p hp => ?_
      rcases List.mem_append.mp hp with hp | hp
      · rw [List.mem_singleton.mp hp]; exact Nat.ne_of_gt lD
      · exact hoff p hp _ (.head _)
    have hs1 : ∀ p ∈ [(DL, listOf ws.toArray 0)], p ∈ R := by rw [hR]; exact fun p hp => List.mem_append.mpr (.inl hp)
    have hs2 : ∀ p ∈ own, p ∈ R := by rw [hR]; exact fun p hp => List.mem_append.mpr (.inr hp)
    have hsz : rv.length ≤ sizeLine := size3 (k := 2000) (by omega) (by omega)
    clear N₁ hR
    k_steps
    unfold HereStop
    obtain ⟨fgv, hfgv, hx⟩ : ∃ z : Int, z = (if 0 ≤ xv then xv else 7 - xv) ∧ 0 ≤ z := ⟨_, rfl, by split <;> omega⟩
    refine cut_int fgv ?ifA ?ifB
    case ifA =>
      with_reducible refine IfExp_ ?_
      k_steps
      · unfold HereStop; exact ⟨_, _, by rw [hfgv, if_pos (by omega)], rfl⟩
      · unfold HereStop; exact ⟨_, _, by rw [hfgv, if_neg (by omega)], rfl⟩
    case ifB =>
    intro tfg ufg
    k_steps
    rename_i RR F2 _ NN
    refine' my_range (σ := List Value × Nat × Int × Tok) (n := 30) (fun j c nx => nx = (RL, listOf c.1.toArray c.2.1) :: R ∧ Small c.1 ∧ c.1.length ≤ 31 * i + 1 + j ∧ 0 ≤ c.2.2.1)
      (fun c => [(Str.ofString "row", .ref RL), (Str.ofString "figure", .int c.2.2.1 c.2.2.2)]) (_, rn + 1, (fgv).fdiv 1024, _) rfl RR (by decide) (by decide) F2 NN ⟨rfl, hSm.snoc (fmod_lo _ (by decide)) (fmod_hi _ (by decide)), by simp; omega, Int.fdiv_nonneg hx (by decide)⟩ ?hpsA ?turnA ?doneA
    case hpsA => (try dsimp only); kst_all
    case turnA =>
      rintro j t ⟨rv2, rn2, fg, ft⟩ nx u h tk own2 hj ⟨rfl, hSm2, hlen2, hfg⟩ hoff2 F₁ N₁
      dsimp only at hSm2 hlen2 hfg hoff2 N₁
      dsimp only [kstB] at F₁
      obtain ⟨R2, hR2⟩ : ∃ R2 : Led, R2 = R ++ own2 := ⟨_, rfl⟩
      have N₂ := N₁
      rw [List.cons_append, ← hR2] at N₂
      have hoR2 : OwnOff R2 [RL] := by
        rw [hR2]
        refine off_one fun p hp => ?_
        rcases List.mem_append.mp hp with hp | hp
        · exact hoR p hp _ (.head _)
        · exact hoff2 p hp _ (.head _)
      have hs21 : ∀ p ∈ R, p ∈ R2 := by rw [hR2]; exact fun p hp => List.mem_append.mpr (.inl hp)
      have hs22 : ∀ p ∈ own2, p ∈ R2 := by rw [hR2]; exact fun p hp => List.mem_append.mpr (.inr hp)
      have hsz2 : rv2.length ≤ sizeLine := size3 (k := 2000) (by omega) (by omega)
      clear N₁ hR2
      k_steps
      · rename_i F9 N9
        simp only [List.push_toArray] at N9
        obtain ⟨vq, hq, N9⟩ : ∃ vq, Small vq ∧ vq.length = rv2.length + 1 ∧ News _ _ _ ((RL, listOf vq.toArray (rn2 + 1)) :: R2) := ⟨_, hSm2.snoc (fmod_lo _ (by decide)) (fmod_hi _ (by decide)), by simp, N9⟩
        refine InvEndG.intro (nx := (RL, listOf vq.toArray (rn2 + 1)) :: R) F9 N9.2 ⟨(fun _ hp => nomatch hp), (vq, rn2 + 1, fg.fdiv 1024, _), ⟨rfl, hq, by have := N9.1; dsimp only; omega, Int.fdiv_nonneg hfg (by decide)⟩, by kst_all⟩ hoff2 ?_ ?_
        · intro p hp
          rcases List.mem_cons.mp hp with rfl | hp
          · exact .head _
          · exact .tail _ (hs21 p hp)
        · exact fun p hp => .tail _ (hs22 p hp)
      · rename_i F9 N9 _ _
        refine InvEndG.intro (nx := (RL, listOf rv2.toArray rn2) :: R) F9 N9 ⟨(fun _ hp => nomatch hp), (rv2, rn2, fg, ft), ⟨rfl, hSm2, by dsimp only; omega, hfg⟩, by kst_all⟩ hoff2 ?_ ?_
        · intro p hp
          rcases List.mem_cons.mp hp with rfl | hp
          · exact .head _
          · exact .tail _ (hs21 p hp)
        · exact fun p hp => .tail _ (hs22 p hp)
    case doneA =>
      rintro ⟨rv2, rn2, fg, ft⟩ nx u h tk ⟨rfl, hSm2, hlen2, hfg⟩ F₁ N₁
      dsimp only at hSm2 hlen2 hfg N₁
      dsimp only [kstB] at F₁
      k_steps
      refine InvEndG.intro (nx := [(RL, listOf rv2.toArray rn2), (DL, listOf ws.toArray 0)]) F₁ N₁ ⟨(fun p hp => .tail _ hp), (rv2, rn2), ⟨rfl, hSm2, by dsimp only; omega⟩, by kst_all⟩ hoff ?_ ?_
      · intro p hp
        rcases List.mem_cons.mp hp with e | hp
        · rw [e]; exact .head _
        · exact .tail _ (hs1 p hp)
      · exact fun p hp => .tail _ (hs2 p hp)
  case done =>
    rintro ⟨rv, rn⟩ nx u h tk ⟨rfl, hSm, hlen⟩ hl F₁ N₁
    dsimp only at hSm hlen hl N₁
    dsimp only [kstB] at F₁
    have hsz : rv.length ≤ sizeLine := size3 (k := 2000) (by omega) (by omega)
    k_steps
    rename_i kN _ _
    exact hret _ _ _ _ _ hSm.row (by assumption) (News.sub kN (fun p hp => by rw [List.mem_singleton.mp hp]; exact .head _))
set_option maxHeartbeats 400000
theorem fill_CE : (fun (_ : OpenLaw) (_ : Params → Frag) => True) PySem.Challenge.rw_nu0347_01 hd.heap_1 := by
  w_top off
  k_fill
  trivial
theorem loaded_spec (w : World) (name : Str) (base : Int) (ob : Addr) (tn t1 t2 t3 : Tok) (news : Led) :
    Call 400 4000 w 73 [.str name tn, .int 1 t1, .int base t2, .int 64 t3, .ref ob] news (fun r news' => ∃ l ld t y, r = .ref l ∧ news' = (l, instObj 73 ld) :: (ld, loadDict w t y name base ob) :: news ∧ (∀ q ∈ news, q.1 < ld) ∧ ld < l) := by
  unfold Call
  intro mean mg mb gd cn cs a ccd cl outer A₀ base' h₀ L m s Q E B F X N T hk hret
  walk_at "m_cls"
  k_steps
  rename_i x9 d9 _ _ _ l1 l2 _ _ _ _ _ _ _ _ _ _ _ _ _ _ _ _ _ _ _ _ kN _ _
  refine' hret _ _ _ _ ⟨x9, d9, (fun i => [_, _, _, _, _, _, _, _].getD i 0), (fun i => [_, _, _].getD i .none), rfl, rfl, l1, l2⟩ (by assumption) (News.sub kN (fun p hp => .tail _ hp))
theorem use_loaded {dp' un' : Nat} {mean : ExcName → Option Value} {mg mb : Str → Option Value} {gd : Option (List Code)} {cn : Str} {cs : Scope} {a0 : Addr} {ccd : Value} {cl : List (Str × Addr)} {outer : List Env} {A₀ : Around} {base0 h₀ : Heap} {L0 : Addr} {m0 : Str → Option Value} {s : Shared} {Q E0 : Value → Shared → Prop} (w : World) (name : Str) (base : Int) (ob : Addr) (tn t1 t2 t3 : Tok) (news : Led)
    (B : Below A₀ base0 outer h₀) (F : Fr h₀ L0 s.heap m0) (X : (hd.heap_1 w.params).In h₀) (N : News h₀ L0 s.heap news) (T : Top hd.view_1 (looseW hd.view_1 []) mean mg mb h₀) (hk : cs.kind = .function) (hd' : dp' ≤ 400) (hu : un' ≤ 4000)
    (k0 : ∀ h' tk', Fr h₀ L0 h' m0 → ∀ l ld t y, News h₀ L0 h' ((l, instObj 73 ld) :: (ld, loadDict w t y name base ob) :: news) → (∀ q ∈ news, q.1 < ld) → @LT.lt Nat _ ld l → Q (.ref l) { s with heap := h', toks := tk' }) :
    wpAny (model PySem.Challenge.rw_nu0347_01.row.prog w) (ktrTop dp' un' gd cn cs L0 a0 ccd cl outer) (call (.ref 73) [.str name tn, .int 1 t1, .int base t2, .int 64 t3, .ref ob]) Q E0 s :=
  Call.use B F X N T hk (loaded_spec w name base ob tn t1 t2 t3 news) hd' hu fun r news' h' tk' hp F' N' => by
    obtain ⟨x, dx, t, y, rfl, rfl, q1, q2⟩ := hp
    exact k0 _ _ F' x dx t y N' q1 q2
theorem line_21 : True := by
  (k_with "call ref" => (k_here; k_dflt (refine' use_loaded _ _ _ _ _ _ _ _ _ ?q9B ?q9F ?q9X ?q9N ?q9T ?q9hk ?q9hd ?q9hu ?_; walk_at "m_used"; k_whole); intro _ _ _ _ _ _ _ _; intro q1; (try k_lt q1); revert q1; intro _; intro _; walk_at "m_on"))
  trivial
set_option maxHeartbeats 1000000
noncomputable def WhEnd {σ : Type} (h₀ : Heap) (L : Addr) (Inv : Nat → σ → Led → Prop) (ps : σ → List (Str × Value)) (n : Nat) (s s₃ : Shared) : Prop :=
  ∃ h' tk m' news' nx n' c', s₃ = { s with heap := h', toks := tk } ∧ Fr h₀ L h' m' ∧ News h₀ L h' news' ∧ (∀ p ∈ nx, p ∈ news') ∧ n' < n ∧ Inv n' c' nx ∧ ∀ p ∈ ps c', m' p.1 = some p.2
noncomputable def WhPost {σ : Type} (h₀ : Heap) (L : Addr) (Inv : Nat → σ → Led → Prop) (ps : σ → List (Str × Value)) (n : Nat) (s : Shared) (Q : Flow → Shared → Prop) (f : Flow) (s₃ : Shared) : Prop :=
  match f with
  | .ret v => Q (.ret v) s₃
  | .brk => Q .next s₃
  | _ => WhEnd h₀ L Inv ps n s s₃
theorem line_22 : True := by
  (k_with "WhPost" => (dsimp only [WhPost]))
  trivial
section
variable {prog : Program} {w : World} {A : Around} {E : Value → Shared → Prop} {s : Shared} {env : Env} {h₀ : Heap} {body : List Stmt} {Q : Flow → Shared → Prop} {σ : Type}
theorem WhEnd.intro {L : Addr} {Inv : Nat → σ → Led → Prop} {ps : σ → List (Str × Value)} {n n' tk : Nat} {h' : Heap} {m' : Str → Option Value} {news' nx : Led} (c' : σ) (F : Fr h₀ L h' m') (N : News h₀ L h' news') (hs : ∀ p ∈ nx, p ∈ news') (hn : n' < n) (hI : Inv n' c' nx) (hp : ∀ p ∈ ps c', m' p.1 = some p.2) :
    WhEnd h₀ L Inv ps n s { s with heap := h', toks := tk } := ⟨h', tk, m', news', nx, n', c', rfl, F, N, hs, hn, hI, hp⟩
theorem my_while {test : PySem.Expr} {pos : Pos} {m₀ : Str → Option Value} {news : Led} {n₀ : Nat} (Inv : Nat → σ → Led → Prop) (ps : σ → List (Str × Value)) (c₀ : σ)
    (F : Fr h₀ env.locals s.heap m₀) (N : News h₀ env.locals s.heap news) (h0 : Inv n₀ c₀ news) (hps : ∀ p ∈ ps c₀, m₀ p.1 = some p.2)
    (turn : ∀ n c nx (u : Str → Option Value) h tk, Inv n c nx → Fr h₀ env.locals h (kstB u (ps c)) → News h₀ env.locals h nx →
      wpAny (model prog w) A (isTrue test env (eval test env)) (fun b s₂ => if b = true then wpAny (model prog w) A (execs body env) (WhPost h₀ env.locals Inv ps n s Q) E s₂ else Q .next s₂) E { s with heap := h, toks := tk })
    (hE : PassesOwn (model prog w) A env E := by passes_own) :
    wpAny (model prog w) A (exec (.While test body [] pos) env) Q E s := by
  refine While_inv2 (L := env.locals) (fun n m nx => ∃ c, Inv n c nx ∧ ∀ p ∈ ps c, m p.1 = some p.2) (n₀ := n₀) F N ⟨c₀, h0, hps⟩ ?_ hE
  rintro n m₁ nx h tk F₁ N₁ ⟨c, hI, hm⟩
  refine wpAny_mono (turn n c nx m₁ h tk hI (by rw [kstB_self hm]; exact F₁) N₁) (fun b s₂ p => ?_) fun _ _ x => x
  cases b with
  | false => simpa using p
  | true =>
    simp only [if_true] at p ⊢
    refine wpAny_mono p (fun f s₃ q => ?_) fun _ _ x => x
    cases f with
    | ret v => exact q
    | brk => exact q
    | next =>
      obtain ⟨h', tk', m', news', nx', n', c', rfl, F', N', hs, hn, hI', hp'⟩ := q
      exact ⟨h', tk', m', nx', n', rfl, F', fun p hp => N' p (hs p hp), hn, c', hI', hp'⟩
    | cont =>
      obtain ⟨h', tk', m', news', nx', n', c', rfl, F', N', hs, hn, hI', hp'⟩ := q
      exact ⟨h', tk', m', nx', n', rfl, F', fun p hp => N' p (hs p hp), hn, c', hI', hp'⟩
end
/-- the frames on the stack -/
inductive Linked (W : Int → Int) : Int → List Int → Prop
  | nil : Linked W 0 []
  | cons {a a' b : Int} {bs : List Int} : W (((a - 4).fmod 4294967296).fdiv 4) = b → W (((a - 8).fmod 4294967296).fdiv 4) = a' → 216 ≤ a → a ≤ 700 → Linked W a' bs → Linked W a (b :: bs)
structure MachAt (w : World) (news : Led) (mach md mem memd wd cpu cpud regs rl ll : Addr) (t t' t'' : Nat → Tok) (y y' : Nat → Value) (pc : Int) (tp : Tok) (gvs : List Value) (gn : Nat) (lvs : List Value) (ln : Nat) (o : Obj) : Prop where
  m1 : (mach, instObj 407 md) ∈ news
  m2 : (md, machDict w t y mem cpu ll) ∈ news
  c1 : (cpu, instObj 259 cpud) ∈ news
  c2 : (cpud, cpuDict w t' y' regs rl pc tp) ∈ news
  r1 : (regs, listOf gvs.toArray gn) ∈ news
  e1 : (mem, instObj 315 memd) ∈ news
  e2 : (memd, dictOf [ent w "size" (t'' 0) (.int 720 (t'' 1)), ent w "words" (t'' 2) (.ref wd)] 2) ∈ news
  l1 : (ll, listOf lvs.toArray ln) ∈ news
  d1 : (wd, o) ∈ news
  lo : (wd == sysModules) = false
theorem MachAt.mono {w : World} {news news' : Led} {mach md mem memd wd cpu cpud regs rl ll : Addr} {t t' t'' : Nat → Tok} {y y' : Nat → Value} {pc : Int} {tp : Tok} {gvs : List Value} {gn : Nat} {lvs : List Value} {ln : Nat} {o : Obj} (hs : ∀ p ∈ news, p ∈ news')
    (h : MachAt w news mach md mem memd wd cpu cpud regs rl ll t t' t'' y y' pc tp gvs gn lvs ln o) : MachAt w news' mach md mem memd wd cpu cpud regs rl ll t t' t'' y y' pc tp gvs gn lvs ln o :=
  ⟨hs _ h.m1, hs _ h.m2, hs _ h.c1, hs _ h.c2, hs _ h.r1, hs _ h.e1, hs _ h.e2, hs _ h.l1, hs _ h.d1, h.lo⟩
theorem reg_item {prog : Program} {w : World} {A : Around} {E : Value → Shared → Prop} {s : Shared} {h₀ : Heap} {L l : Addr} {news : Led} {vs : List Value} {n : Nat} {k : Int} {u : Tok} {v : Value} {value slice : PySem.Expr} {Q : Value → Shared → Prop} (N : News h₀ L s.heap news)
    (hp : (l, listOf vs.toArray n) ∈ news) (h0 : 0 ≤ k) (h1 : k < 1000) (hv : vs[k.toNat]? = some v) (h : Q v s)
    (hs : subscripted slice false (.ref l) (.int k u) = operate [.ref l, .int k u] (getItem (.ref l) (.int k u)) := by with_unfolding_all rfl) :
    wpAny (model prog w) A (subscriptTail value slice (.ref l) (.int k u)) Q E s := by
  have hl : s.heap.IsList l vs.toArray := ⟨_, (N _ hp).1, rfl, n, rfl⟩
  exact tail_any hl.typeIs slot_list_getitem.lookup (wpAny_getItem_list hl h0 (by omega) (by simpa using hv) h) hs
theorem line_23 : True := by
  (k_with "subscriptTail" => (k_here; (with_reducible show wpAny _ _ (subscriptTail _ _ (Value.ref _) (Value.int _ _)) _ _ _); k_dflt (refine' reg_item ?q9N ?q9hp ?q9a ?q9b ?q9hv ?_ ?q9hs; (case q9N => k_asm); (case q9hp => k_mem); (case q9a => decide); (case q9b => decide); (case q9hv => first | k_asm | rfl); (case q9hs => with_unfolding_all rfl))))
  trivial
set_option maxHeartbeats 1000000
theorem fill_CG : (fun (_ : OpenLaw) (_ : Params → Frag) => True) PySem.Challenge.rw_nu0347_01 hd.heap_1 := by
  w_top off
  k_fill
  trivial
theorem line_24 : True := by
  (k_with "m_mods" => first | (with_reducible assumption) | ((refine ModsAre.mono ?_ (by with_reducible assumption)); intro p hp; repeat (first | exact hp | refine List.mem_cons_of_mem _ ?_)))
  (k_with "call ref" => (k_here; (with_reducible show wpAny _ _ (call (Value.ref 28) _) _ _ _); k_dflt (refine (show HereStop (wpAny _ _ _ _ _ _) from ?_))))
  (k_with "exec If" => (k_here; (with_reducible show wpAny _ _ (exec (Stmt.If (PySem.Expr.BoolOp _ _ _) _ _ _) _) _ _ _); k_dflt (refine (show HereStop (wpAny _ _ _ _ _ _) from ?_))))
  (k_with "exec While BoolOp cons nil" => (k_here; refine (show HereStop (wpAny _ _ _ _ _ _) from ?_)))
  (k_with "m_mach" => first | (with_reducible assumption) | ((refine MachAt.mono ?_ (by with_reducible assumption)); intro p hp; repeat (first | exact hp | refine List.mem_cons_of_mem _ ?_)))
  trivial
theorem name_it {h₀ : Heap} {L a : Addr} {h : Heap} {o : Obj} {news : Led} {P : Prop} (_ : News h₀ L h ((a, o) :: news)) (k : ∀ D, D = a → P) : P := k a rfl
theorem line_25 : True := by
  (k_with "call ref" => (k_here; k_dflt (refine' use_word _ _ _ _ _ _ _ _ _ _ _ _ _ _ ?q9h1 ?q9h2 ?q9h3 ?q9lo ?q9hD ?q9hW ?q9ha ?q9ha2 ?q9B ?q9F ?q9X ?q9N ?q9T ?q9hk ?q9hd ?q9hu ?_; walk_at "m_used"; (case q9h1 => k_mem); (case q9h2 => k_mem); (case q9h3 => k_mem); (case q9lo => k_asm); (case q9hD => k_asm); (case q9hW => k_asm); (case q9ha => k_asm); (case q9ha2 => k_asm); k_whole); intro _ _ _ _ _; walk_at "m_on"))
  trivial
noncomputable def inOut (s : Str) : Bool := [Str.ofString "In", Str.ofString "Out"].any fun x => x == s
noncomputable def chainRows (bs : List Int) : List Int := (bs.takeWhile (fun b => decide (b ≠ 0))).map (fun b => b - 1)
noncomputable def trapRows (ms : List MD) (pc link : Int) (bs : List Int) : List Int :=
  [pc - 1] ++ (match findMod ms (pc - 1) with | none => [] | some m => if inOut m.name = true ∧ link ≠ 0 then [link - 1] else []) ++ chainRows bs
theorem tr_none {ms : List MD} {pc link : Int} {bs : List Int} (h : findMod ms (pc - 1) = none) : [pc - 1] ++ chainRows bs = trapRows ms pc link bs := by
  unfold trapRows; rw [h]; rfl
theorem tr_in {ms : List MD} {pc link : Int} {bs : List Int} {m : MD} (h : findMod ms (pc - 1) = some m) (hi : inOut m.name = true) (hl : link ≠ 0) : [pc - 1, link - 1] ++ chainRows bs = trapRows ms pc link bs := by
  unfold trapRows; rw [h]; dsimp only; rw [if_pos ⟨hi, hl⟩]; rfl
theorem tr_zero {ms : List MD} {pc link : Int} {bs : List Int} {m : MD} (h : findMod ms (pc - 1) = some m) (hl : link = 0) : [pc - 1] ++ chainRows bs = trapRows ms pc link bs := by
  unfold trapRows; rw [h]; dsimp only; rw [if_neg (fun z => z.2 hl)]; rfl
theorem tr_not {ms : List MD} {pc link : Int} {bs : List Int} {m : MD} (h : findMod ms (pc - 1) = some m) (hi : inOut m.name = false) : [pc - 1] ++ chainRows bs = trapRows ms pc link bs := by
  unfold trapRows; rw [h]; dsimp only; rw [if_neg (fun z => by rw [hi] at z; exact absurd z.1 (by decide))]; rfl
theorem chain_cons {b : Int} {bs ns tot : List Int} (h : ns ++ chainRows (b :: bs) = tot) (hb : b ≠ 0) : (ns ++ [b - 1]) ++ chainRows bs = tot := by
  rw [← h, List.append_assoc]; simp [chainRows, hb]
theorem chain_stop {b : Int} {bs ns tot : List Int} (h : ns ++ chainRows (b :: bs) = tot) (hb : b = 0) : ns = tot := by
  rw [← h]; simp [chainRows, hb]
theorem chain_nil {ns tot : List Int} (h : ns ++ chainRows [] = tot) : ns = tot := by
  rw [← h]; simp [chainRows]
theorem fmod_place {a : Int} (h1 : 216 ≤ a) (h2 : a ≤ 700) : 0 ≤ (a - 4).fmod 4294967296 ∧ (a - 4).fmod 4294967296 < 720 ∧ 0 ≤ (a - 8).fmod 4294967296 ∧ (a - 8).fmod 4294967296 < 720 := by
  rw [Int.fmod_eq_emod_of_nonneg _ (by decide), Int.fmod_eq_emod_of_nonneg _ (by decide)]; omega
theorem ints_push {vs : List Value} {ns : List Int} (h : IntsAre vs ns) (x : Int) (t : Tok) : IntsAre (vs ++ [.int x t]) (ns ++ [x]) := by
  induction h with
  | nil => exact .cons x t .nil
  | cons y u r ih => exact .cons y u ih
theorem trap_spec (w : World) (news : Led) (mach md mem memd wd cpu cpud regs rl ll : Addr) (t t' t'' : Nat → Tok) (y y' : Nat → Value) (pc : Int) (tp : Tok) (gvs : List Value) (gn : Nat) (lvs : List Value) (ln : Nat) (o : Obj) (ms : List MD) (kvs : List (Int × Value)) (W : Int → Int) (link fp : Int) (tl tf : Tok) (bs : List Int)
    (hM : MachAt w news mach md mem memd wd cpu cpud regs rl ll t t' t'' y y' pc tp gvs gn lvs ln o) (hms : ModsAre w news lvs ms) (hD : o.IsDictOf (intKind PySem.Challenge.rw_nu0347_01.row.prog w) kvs) (hW : MemIs kvs W)
    (g15 : gvs[15]? = some (.int link tl)) (g11 : gvs[11]? = some (.int fp tf)) (hL : Linked W fp bs) (hb : bs.length ≤ 6) :
    Call 390 3900 w 49 [.ref mach] news (fun r news' => ∃ D vs n, r = .ref D ∧ news' = (D, listOf vs.toArray n) :: news ∧ IntsAre vs (trapRows ms pc link bs) ∧ ∀ q ∈ news, q.1 < D) := by
  unfold Call
  intro mean mg mb gd cn cs a ccd cl outer A₀ base' h₀ L m s Q E B F X N T hk hret
  obtain ⟨m1, m2, c1, c2, r1, e1, e2, l1, d1, lo⟩ := hM
  walk_at "m_enter"
  k_steps
  unfold HereStop
  refine' Call.use ?q9B ?q9F ?q9X ?q9N ?q9T ?q9hk (module_at_spec w mach md mem cpu ll _ _ lvs ln ms (pc - 1) _ _ ?q9h1 ?q9h2 ?q9h3 ?q9h4) ?q9hd ?q9hu ?_
  walk_at "m_used"
  case q9h1 => k_mem
  case q9h2 => k_mem
  case q9h3 => k_mem
  case q9h4 => walk_at "m_mods"
  intro r news' h' tk' hp F' N'
  obtain ⟨rfl, hr⟩ := hp
  walk_at "m_on"
  k_steps
  rename_i g9 LL _ _ _ _ _ _ _ _ _ D _ hlt _ _ h9 F9 N9
  unfold HereStop
  refine cut_here (fun fl s' => HereStop (fl = .next ∧ ∃ h' tk' m' vs0 n0 ns0, s' = { s with heap := h', toks := tk' } ∧ Fr g9 LL h' m' ∧ (∀ p ∈ [(Str.ofString "machine", Value.ref mach), (Str.ofString "cpu", .ref cpu), (Str.ofString "rows", .ref D)], m' p.1 = some p.2) ∧
    News g9 LL h' ((D, listOf (List.toArray vs0) n0) :: news) ∧ IntsAre vs0 ns0 ∧ ns0 ++ chainRows bs = trapRows ms pc link bs ∧ vs0.length ≤ 2)) ?cutA ?cutB
  case cutA =>
    rcases hr with ⟨f1, rfl⟩ | ⟨l, m, f1, rfl, ld, ob, t1, y1, g1, g2, g3, g4⟩
    · refine wpAny_If ?_
      k_steps
      unfold HereStop
      refine ⟨rfl, _, _, _, [_], _, [_], rfl, (by assumption), (by kst_all), (by first | assumption | exact News.sub (by assumption) (fun p hp => .tail _ hp)), .cons _ _ .nil, tr_none f1, by simp⟩
    · refine wpAny_If ?_
      k_steps
      all_goals unfold HereStop
      all_goals first
        | exact ⟨rfl, _, _, _, [_], _, [_], rfl, (by assumption), (by kst_all), (by first | assumption | exact News.sub (by assumption) (fun p hp => .tail _ hp)), .cons _ _ .nil, (by first | exact tr_zero (by assumption) (by assumption) | exact tr_not (by assumption) (by assumption)), by simp⟩
        | exact ⟨rfl, _, _, _, [_, _], _, [_, _], rfl, (by assumption), (by kst_all), (by first | assumption | exact News.sub (by assumption) (fun p hp => .tail _ hp)), .cons _ _ (.cons _ _ .nil), tr_in (by assumption) (by assumption) (by assumption), by simp⟩
  case cutB =>
  intro fl s' hP
  unfold HereStop at hP
  obtain ⟨rfl, h', tk', m', vs0, n0, ns0, rfl, F9, hm9, N0, hI0, htot, hz0⟩ := hP
  rw [← kstB_self hm9] at F9
  dsimp only [kstB] at F9
  k_steps
  unfold HereStop
  rename Fr _ _ _ _ => F8
  rename News _ _ _ _ => N8
  refine' my_while (σ := List Value × Nat × List Int × List Int × Int × Int × Tok × Tok) (n₀ := bs.length) (fun n c nx => nx = (D, listOf c.1.toArray c.2.1) :: news ∧ n = c.2.2.2.1.length ∧ IntsAre c.1 c.2.2.1 ∧ c.2.2.1 ++ chainRows c.2.2.2.1 = trapRows ms pc link bs ∧ Linked W c.2.2.2.2.1 c.2.2.2.1 ∧ 0 ≤ c.2.2.2.2.2.1 ∧ c.2.2.2.2.2.1 + c.2.2.2.1.length ≤ 6 ∧ c.1.length ≤ 2 + c.2.2.2.2.2.1) (fun c => [(Str.ofString "machine", .ref mach), (Str.ofString "rows", .ref D), (Str.ofString "fp", .int c.2.2.2.2.1 c.2.2.2.2.2.2.1), (Str.ofString "turns", .int c.2.2.2.2.2.1 c.2.2.2.2.2.2.2)]) (vs0, n0, ns0, bs, fp, 0, _, _) F8 N8 ⟨rfl, rfl, hI0, htot, hL, Int.le_refl _, by simp; omega, by simp; omega⟩ ?_ ?_
  rotate_left 2
  · (try dsimp only); kst_all
  · rintro n ⟨vs, vn, ns, bs', fp', tn, tkF, tkT⟩ nx u h tk ⟨rfl, rfl, hI, htot', hLk, htn, hle, hz⟩ F₁ N₁
    dsimp only at hI htot' hLk htn hle hz N₁
    dsimp only [kstB] at F₁
    have hsz : vs.length ≤ sizeLine := size3 (k := 200) (by omega) (by omega)
    clear F8 N8 htot
    cases hLk
    · k_steps
      rw [chain_nil htot'] at hI
      exact hret _ _ _ _ ⟨D, vs, vn, rfl, rfl, hI, hlt⟩ (by assumption) (by assumption)
    · have hlo : 216 ≤ fp' := by assumption
      have hhi : fp' ≤ 700 := by assumption
      rename W (((fp' - 4).fmod 4294967296).fdiv 4) = _ => eb
      rename W (((fp' - 8).fmod 4294967296).fdiv 4) = _ => ea
      rename Linked W _ _ => hL'
      have hpl := fmod_place hlo hhi
      obtain ⟨p1, p2, p3, p4⟩ := hpl
      subst eb
      subst ea
      k_steps
      · rw [chain_stop htot' (by assumption)] at hI
        exact hret _ _ _ _ ⟨D, vs, vn, rfl, rfl, hI, hlt⟩ (by assumption) (by assumption)
      · rename_i tk1 _ _ _ _ t9 _ _ F8 N8
        simp only [List.push_toArray] at N8
        simp only [List.length_cons] at hle
        refine WhEnd.intro (vs ++ [.int (W (((fp' - 4).fmod 4294967296).fdiv 4) - 1) (tk1 + 1)], vn + 1, ns ++ [W (((fp' - 4).fmod 4294967296).fdiv 4) - 1], _, W (((fp' - 8).fmod 4294967296).fdiv 4), tn + 1, t9, tk + 1) F8 N8 (fun p hp => hp) (Nat.lt_succ_self _) ⟨rfl, rfl, ints_push hI _ _, chain_cons htot' (by assumption), hL', by dsimp only; omega, by dsimp only; omega, ?_⟩ (by kst_all)
        simp only [List.length_append, List.length_cons, List.length_nil]; omega
      · omega
theorem use_trap {dp' un' : Nat} {mean : ExcName → Option Value} {mg mb : Str → Option Value} {gd : Option (List Code)} {cn : Str} {cs : Scope} {a0 : Addr} {ccd : Value} {cl : List (Str × Addr)} {outer : List Env} {A₀ : Around} {base0 h₀ : Heap} {L0 : Addr} {m0 : Str → Option Value} {s : Shared} {Q E0 : Value → Shared → Prop} (w : World) (news : Led) (mach md mem memd wd cpu cpud regs rl ll : Addr) (t t' t'' : Nat → Tok) (y y' : Nat → Value) (pc : Int) (tp : Tok) (gvs : List Value) (gn : Nat) (lvs : List Value) (ln : Nat) (o : Obj) (ms : List MD) (kvs : List (Int × Value)) (W : Int → Int) (link fp : Int) (tl tf : Tok) (bs : List Int) (hM : MachAt w news mach md mem memd wd cpu cpud regs rl ll t t' t'' y y' pc tp gvs gn lvs ln o) (hms : ModsAre w news lvs ms) (hD : o.IsDictOf (intKind PySem.Challenge.rw_nu0347_01.row.prog w) kvs) (hW : MemIs kvs W) (g15 : gvs[15]? = some (.int link tl)) (g11 : gvs[11]? = some (.int fp tf)) (hL : Linked W fp bs) (hb : bs.length ≤ 6)
    (B : Below A₀ base0 outer h₀) (F : Fr h₀ L0 s.heap m0) (X : (hd.heap_1 w.params).In h₀) (N : News h₀ L0 s.heap news) (T : Top hd.view_1 (looseW hd.view_1 []) mean mg mb h₀) (hk : cs.kind = .function) (hd' : dp' ≤ 390) (hu : un' ≤ 3900)
    (k0 : ∀ h' tk', Fr h₀ L0 h' m0 → ∀ D vs n, IntsAre vs (trapRows ms pc link bs) → News h₀ L0 h' ((D, listOf vs.toArray n) :: news) → (∀ q ∈ news, q.1 < D) → Q (.ref D) { s with heap := h', toks := tk' }) :
    wpAny (model PySem.Challenge.rw_nu0347_01.row.prog w) (ktrTop dp' un' gd cn cs L0 a0 ccd cl outer) (call (.ref 49) [.ref mach]) Q E0 s :=
  Call.use B F X N T hk (trap_spec w news mach md mem memd wd cpu cpud regs rl ll t t' t'' y y' pc tp gvs gn lvs ln o ms kvs W link fp tl tf bs hM hms hD hW g15 g11 hL hb) hd' hu fun r news' h' tk' hp F' N' => by
    obtain ⟨D1, vs1, n1, rfl, rfl, i1, l1⟩ := hp
    exact k0 _ _ F' D1 vs1 n1 i1 N' l1
theorem line_26 : True := by
  (k_with "call ref" => (k_here; k_dflt (refine' use_trap _ _ _ _ _ _ _ _ _ _ _ _ _ _ _ _ _ _ _ _ _ _ _ _ _ _ _ _ _ _ _ _ ?q9hM ?q9hms ?q9hD ?q9hW ?q9g15 ?q9g11 ?q9hL ?q9hb ?q9B ?q9F ?q9X ?q9N ?q9T ?q9hk ?q9hd ?q9hu ?_; walk_at "m_used"; (case q9hM => walk_at "m_mach"); (case q9hms => walk_at "m_mods"); (case q9hD => k_asm); (case q9hW => k_asm); (case q9g15 => k_asm); (case q9g11 => k_asm); (case q9hL => k_asm); (case q9hb => k_asm); k_whole); intro _ _ _ _ _ _ _ _; intro q1; (try k_lt q1); revert q1; intro _; walk_at "m_on"))
  trivial
set_option maxHeartbeats 1000000
theorem fill_CH : (fun (_ : OpenLaw) (_ : Params → Frag) => True) PySem.Challenge.rw_nu0347_01 hd.heap_1 := by
  w_top off
  k_fill
  trivial
abbrev Ln := Str × Int × Str
noncomputable def datOf (l : Ln) : Dat := .tuple [.str l.1, .int l.2.1, .str l.2.2]
noncomputable def tellRow (ms : List MD) (row : Int) : Option Ln := (findMod ms row).map fun m => (m.name, row - m.base, nearest m.d (row - m.base))
noncomputable def tellRows (ms : List MD) (rows : List Int) : List Dat := (rows.filterMap (tellRow ms)).map datOf
theorem dat_snoc {news : Led} {v : Value} {d : Dat} (h : DatIn news v d) : ∀ {vs : List Value} {ds : List Dat}, DatAll news vs ds → DatAll news (vs ++ [v]) (ds ++ [d])
  | _, _, .nil => .cons h .nil
  | _, _, .cons h' r => .cons h' (dat_snoc h r)
theorem tell_snoc {ms : List MD} {ns : List Int} {i : Nat} {x : Int} (hx : ns[i]? = some x) : tellRows ms (ns.take (i + 1)) = tellRows ms (ns.take i) ++ (match tellRow ms x with | none => [] | some l => [datOf l]) := by
  unfold tellRows
  rw [List.take_add_one, hx]
  simp only [Option.toList, List.filterMap_append, List.filterMap_cons, List.filterMap_nil, List.map_append]
  cases tellRow ms x <;> rfl
theorem ints_get : ∀ {vs : List Value} {ns : List Int}, IntsAre vs ns → ∀ {i : Nat} {v : Value}, vs[i]? = some v → ∃ x t, v = .int x t ∧ ns[i]? = some x
  | _, _, .nil, _, _, h => by simp at h
  | _, _, .cons x t r, 0, v, h => by simp at h; exact ⟨x, t, h.symm, rfl⟩
  | _, _, .cons _ _ r, i + 1, v, h => by
    obtain ⟨x, t, a, b⟩ := ints_get r (i := i) (v := v) (by simpa using h)
    exact ⟨x, t, a, by simpa using b⟩
theorem trapRows_len (ms : List MD) (pc link : Int) (bs : List Int) : (trapRows ms pc link bs).length ≤ 2 + bs.length := by
  unfold trapRows chainRows
  have h1 : ∀ l : List Int, (l.takeWhile (fun b => decide (b ≠ 0))).length ≤ l.length := by
    intro l
    induction l with
    | nil => simp
    | cons a r ih =>
      rw [List.takeWhile_cons]
      split
      · simp only [List.length_cons]; omega
      · simp
  have h2 := h1 bs
  simp only [List.length_append, List.length_map, List.length_cons, List.length_nil]
  split
  · simp only [List.length_nil]; omega
  · split
    · simp only [List.length_cons, List.length_nil]; omega
    · simp only [List.length_nil]; omega
theorem line_27 : True := by
  (k_with "call ref" => (k_here; k_dflt (refine' use_told _ _ _ _ _ _ _ _ _ _ _ _ _ _ ?q9h1 ?q9h2 ?q9h3 ?q9h4 ?q9B ?q9F ?q9X ?q9N ?q9T ?q9hk ?q9hd ?q9hu ?q9z0 ?q9z1; walk_at "m_used"; (case q9h1 => k_mem); (case q9h2 => k_mem); (case q9h3 => k_mem); (case q9h4 => walk_at "m_mods"); k_whole); (case' q9z1 => (intro _ _ _ _ _ _ _ _ _ _; intro q1; (try k_lt q1); revert q1; intro _; walk_at "m_on")); (case' q9z0 => (intro _ _ _ _ _; walk_at "m_on"))))
  trivial
theorem back_spec (w : World) (news : Led) (mach md mem memd wd cpu cpud regs rl ll : Addr) (t t' t'' : Nat → Tok) (y y' : Nat → Value) (pc : Int) (tp : Tok) (gvs : List Value) (gn : Nat) (lvs : List Value) (ln : Nat) (o : Obj) (ms : List MD) (kvs : List (Int × Value)) (W : Int → Int) (link fp : Int) (tl tf : Tok) (bs : List Int)
    (hM : MachAt w news mach md mem memd wd cpu cpud regs rl ll t t' t'' y y' pc tp gvs gn lvs ln o) (hms : ModsAre w news lvs ms) (hD : o.IsDictOf (intKind PySem.Challenge.rw_nu0347_01.row.prog w) kvs) (hW : MemIs kvs W)
    (g15 : gvs[15]? = some (.int link tl)) (g11 : gvs[11]? = some (.int fp tf)) (hL : Linked W fp bs) (hb : bs.length ≤ 6) :
    Call 380 3800 w 56 [.ref mach] news (fun r news' => ∃ D vs n objs, r = .ref D ∧ news' = (D, listOf vs.toArray n) :: (objs ++ news) ∧ DatAll objs vs (tellRows ms (trapRows ms pc link bs))) := by
  unfold Call
  intro mean mg mb gd cn cs a ccd cl outer A₀ base' h₀ L m s Q E B F X N T hk hret
  walk_at "m_enter"
  k_steps
  rename_i TL _ l0 _ _ _ F9 D1 vs1 n1 i1 N9 l1
  obtain ⟨rest0, hrest0⟩ : ∃ r : Led, r = (D1, listOf vs1.toArray n1) :: news := ⟨_, rfl⟩
  have N2 := News.sub (l' := (TL, listOf #[] 0) :: rest0) N9 (by rw [hrest0]; walk_at "m_sub")
  have hD1 : (D1, listOf vs1.toArray n1) ∈ rest0 := by rw [hrest0]; exact .head _
  have hsub : ∀ p ∈ news, p ∈ rest0 := by rw [hrest0]; exact fun p hp => .tail _ hp
  have hoff0 : OwnOff rest0 [TL] := off_one (by
    rw [hrest0]
    intro p hp
    rcases List.mem_cons.mp hp with rfl | hp
    · exact Nat.ne_of_gt l1.1
    · exact Nat.ne_of_lt (l0 p hp))
  have hsz1 : vs1.length ≤ 10 := by
    rw [i1.length]
    have := trapRows_len ms pc link bs
    omega
  obtain ⟨m1, m2, c1, c2, r1, e1, e2, l1', d1, lo⟩ := hM
  clear N9
  refine' my_list (σ := List Value × Nat × Led) (fun i c nx => nx = (TL, listOf c.1.toArray c.2.1) :: (c.2.2 ++ rest0) ∧ DatAll c.2.2 c.1 (tellRows ms ((trapRows ms pc link bs).take i)) ∧ OwnOff (c.2.2 ++ rest0) [TL] ∧ c.1.length ≤ i) (fun _ => [(Str.ofString "machine", .ref mach), (Str.ofString "told", .ref TL)]) ([], 0, []) rfl (.tail _ hD1) F9 N2 ⟨rfl, .nil, hoff0, by simp⟩ ?hps (.inl fun _ _ => rfl) ?turn ?done
  case hps => (try dsimp only); kst_all
  case turn =>
    rintro i v ⟨tv, n, tups⟩ nx u h tk own hv ⟨rfl, hT, hoT, hlen⟩ hl hoff F₁ N₁
    dsimp only at hT hoT hlen hl hoff N₁
    obtain ⟨x, tx, rfl, hx⟩ := ints_get i1 hv
    have hi : i < vs1.length := (List.getElem?_eq_some_iff.mp hv).1
    dsimp only [kstB] at F₁
    obtain ⟨R, hR⟩ : ∃ R : Led, R = (tups ++ rest0) ++ own := ⟨_, rfl⟩
    have N₂ := N₁
    rw [List.cons_append, ← hR] at N₂
    have hown : ∀ p ∈ own, p.1 ≠ TL := fun p hp => hoff p hp TL (.head _)
    have hoR : OwnOff R [TL] := off_one (by rw [hR]; exact fun p hp => (List.mem_append.mp hp).elim (fun h => hoT p h TL (.head _)) (hown p))
    have hs1 : ∀ p ∈ tups ++ rest0, p ∈ R := by rw [hR]; exact fun p hp => List.mem_append.mpr (.inl hp)
    have hs2 : ∀ p ∈ own, p ∈ R := by rw [hR]; exact fun p hp => List.mem_append.mpr (.inr hp)
    have hs3 : ∀ p ∈ news, p ∈ R := fun p hp => hs1 p (List.mem_append.mpr (.inr (hsub p hp)))
    have q1 := hs3 _ m1
    have q2 := hs3 _ m2
    have q3 := hs3 _ l1'
    have hms2 := hms.mono hs3
    have hsz : tv.length ≤ sizeLine := size3 (k := 200) (by omega) (by omega)
    clear N₁ hR
    k_steps
    · rename_i f1 _ F8 N8
      refine same_end F8 N8 hs1 hs2 hoff ⟨(by intro p hp; rw [List.mem_singleton.mp hp]; exact hl), (tv, n, tups), ⟨rfl, ?_, hoT, (by dsimp only; omega)⟩, by kst_all⟩
      dsimp only
      rw [tell_snoc hx]
      unfold tellRow
      rw [f1]
      simpa using hT
    · rename_i mx T9 t1 t2 t3 f1 l9 _ _ _ F8 N8
      simp only [List.push_toArray] at N8
      refine append_end F8 N8 hs1 hs2 l9 hoff ⟨(by intro p hp; rw [List.mem_singleton.mp hp]; rcases List.mem_cons.mp hl with e | hl; exact absurd (congrArg Prod.fst e) (Nat.ne_of_gt l1.1); exact .tail _ (.tail _ hl)), (tv ++ [.ref T9], n + 1, (T9, _) :: tups), ⟨rfl, ?_, off_cons hoT l9.1, (by simp only [List.length_append, List.length_singleton]; omega)⟩, by kst_all⟩
      dsimp only
      rw [tell_snoc hx]
      unfold tellRow
      rw [f1]
      exact dat_snoc (.tuple (.head _) (.cons (.str _ _) (.cons (.int _ _) (.cons (.str _ _) .nil)))) (hT.mono fun p hp => .tail _ hp)
  case done =>
    rintro ⟨tv, n, tups⟩ nx u h tk ⟨rfl, hT, hoT, hlen⟩ hl F₁ N₁
    rw [i1.length, List.take_length] at hT
    dsimp only [kstB] at hT hoT hlen hl F₁ N₁
    k_steps
    rename_i kN _ _
    refine hret _ ((TL, listOf tv.toArray n) :: ((tups ++ [(D1, listOf vs1.toArray n1)]) ++ news)) _ _ ⟨TL, tv, n, _, rfl, rfl, hT.mono fun p hp => List.mem_append.mpr (.inl hp)⟩ (by assumption) (News.sub kN ?_)
    rw [hrest0]
    intro p hp
    rcases List.mem_cons.mp hp with e | hp
    · rw [e]; exact .head _
    · refine .tail _ ?_
      rw [List.append_assoc] at hp
      exact hp
set_option maxHeartbeats 1000000
theorem fill_CI : (fun (_ : OpenLaw) (_ : Params → Frag) => True) PySem.Challenge.rw_nu0347_01 hd.heap_1 := by
  w_top off
  k_fill
  trivial
theorem memory_spec (w : World) (sz : Int) (ts : Tok) (news : Led) :
    Call 410 4100 w 315 [.int sz ts] news (fun r news' => ∃ (x dx wd : Addr) (t : Nat → Tok) (o : Obj), r = .ref x ∧ news' = (wd, o) :: (x, instObj 315 dx) :: (dx, dictOf [ent w "size" (t 0) (.int sz ts), ent w "words" (t 2) (.ref wd)] 2) :: news ∧ (wd == sysModules) = false ∧ o.IsDictOf (intKind PySem.Challenge.rw_nu0347_01.row.prog w) [] ∧
      (∀ q ∈ news, q.1 < dx) ∧ dx < x ∧ x < wd ∧ (∀ q ∈ news, q.1 < x) ∧ ∀ q ∈ news, q.1 < wd) := by
  unfold Call
  intro mean mg mb gd cn cs a ccd cl outer A₀ base' h₀ L m s Q E B F X N T hk hret
  walk_at "m_cls"
  k_steps
  rename_i x9 d9 _ _ _ l1 l2 _ _ _ _ _ _ _ _ w9 _ o9 lo _ _ hi _ l3 _ _ _ _ kN _ _
  exact hret _ _ _ _ ⟨x9, d9, w9, (fun i => [_, 0, _].getD i 0), o9, rfl, rfl, lo, hi, l1, l2, l3.1, fun q hq => Nat.lt_trans (l1 q hq) l2, fun q hq => tb_ltOf l3.2.2 q hq⟩ (by assumption) kN
theorem cpu_spec (w : World) (mem : Addr) (news : Led) :
    Call 410 4100 w 259 [.ref mem] news (fun r news' => ∃ (x dx regs rl : Addr) (t : Nat → Tok) (y : Nat → Value) (tp tz : Tok), r = .ref x ∧ news' = (rl, listOf #[] 0) :: (regs, listOf (List.replicate 16 (.int 0 tz)).toArray 0) :: (x, instObj 259 dx) :: (dx, cpuDict w t y regs rl 0 tp) :: news ∧
      (∀ q ∈ news, q.1 < dx) ∧ dx < x ∧ x < regs ∧ regs < rl ∧ (∀ q ∈ news, q.1 < x) ∧ (∀ q ∈ news, q.1 < regs) ∧ ∀ q ∈ news, q.1 < rl) := by
  unfold Call
  intro mean mg mb gd cn cs a ccd cl outer A₀ base' h₀ L m s Q E B F X N T hk hret
  walk_at "m_cls"
  k_steps
  rename_i x9 d9 _ _ _ l1 l2 _ _ _ _ _ _ _ _ _ _ _ l3 r9 _ l4 _ _ _ _ _ _ _ _ q9 _ l5 _ _ _ _ kN _ _
  simp only [show Int.toNat 16 = 16 from rfl] at kN
  refine' hret _ _ _ _ ⟨x9, d9, r9, q9, (fun i => [_, _, _, _, _, _, _, _, _].getD i 0), (fun i => [_, _, _, _, _, _].getD i .none), _, _, rfl, rfl, l1, l2, l4.2.1, l5.1, fun q hq => Nat.lt_trans (l1 q hq) l2, fun q hq => tb_ltOf l4.2.2.2 q hq, fun q hq => tb_ltOf l5.2.2.2.2 q hq⟩ (by assumption) (News.sub kN ?sub)
  case sub =>
    intro p hp
    rcases List.mem_cons.mp hp with rfl | hp
    · exact .head _
    rcases List.mem_cons.mp hp with e | hp
    · rw [e]
      refine List.mem_cons_of_mem _ ?_
      exact List.mem_cons_self
    rcases List.mem_cons.mp hp with rfl | hp
    · exact .tail _ (.tail _ (.tail _ (.head _)))
    rcases List.mem_cons.mp hp with e | hp
    · rw [e]
      iterate 4 (refine List.mem_cons_of_mem _ ?_)
      exact List.mem_cons_self
    · iterate 5 (refine List.mem_cons_of_mem _ ?_)
      exact hp
theorem line_28 : True := by
  (k_with "call ref" => (k_here; k_dflt (refine' use_put _ _ _ _ _ _ _ _ _ _ _ _ _ _ _ _ _ ?q9h1 ?q9h2 ?q9U ?q9lo ?q9hD ?q9hW ?q9ha ?q9ha2 ?q9hv ?q9hv2 ?q9hl ?q9B ?q9F ?q9X ?q9N ?q9T ?q9hk ?q9hd ?q9hu ?_; walk_at "m_used"; (case q9h1 => k_mem); (case q9h2 => k_mem); (case q9U => k_updF); (case q9lo => k_asm); (case q9hD => k_asm); (case q9hW => k_asm); (case q9ha => first | k_asm | omega); (case q9ha2 => first | k_asm | omega); (case q9hv => first | k_asm | omega); (case q9hv2 => first | k_asm | omega); (case q9hl => first | k_asm | omega | (simp only [List.length_nil]; omega)); k_whole); intro _ _ _ _ _ _; intro q1; (try simp only [List.length_nil] at q1); revert q1; intro _ _; intro N'; (try dsimp only at N'); revert N'; intro _; walk_at "m_on"))
  trivial
theorem heap_spec (w : World) (mem md wd : Addr) (start limit sz : Int) (hs : start = 128) (hlm : limit = 192) (hsz : 136 ≤ sz) (ta tb t1 t2 t3 : Tok) (o : Obj) (news : Led) (g : Obj → Led) (h1 : (mem, instObj 315 md) ∈ news) (h2 : (md, dictOf [ent w "size" t1 (.int sz t2), ent w "words" t3 (.ref wd)] 2) ∈ news)
    (U : UpdF wd o news g) (lo : (wd == sysModules) = false) (hD : o.IsDictOf (intKind PySem.Challenge.rw_nu0347_01.row.prog w) []) (n1 : mem ≠ wd) (n2 : md ≠ wd) :
    Call 410 4100 w 157 [.ref mem, .int start ta, .int limit tb] news (fun r news' => ∃ hp o' kvs' W, r = .ref hp ∧ news' = g o' ∧ o'.IsDictOf (intKind PySem.Challenge.rw_nu0347_01.row.prog w) kvs' ∧ kvs'.length ≤ 2 ∧ MemIs kvs' W) := by
  subst hs hlm
  unfold Call
  intro mean mg mb gd cn cs a ccd cl outer A₀ base h₀ L m s Q E B F X N T hk hret
  obtain ⟨pre, post, rfl, hg, hp1, hp2⟩ := U.split
  have N1 : News h₀ L s.heap ((wd, o) :: (pre ++ post)) := News.sub N (by walk_at "m_sub")
  have ho : OwnOff (pre ++ post) [wd] := off_one (fun p hp => (List.mem_append.mp hp).elim (hp1 p) (hp2 p))
  have hback : ∀ o', ∀ p ∈ g o', p ∈ (wd, o') :: (pre ++ post) := by
    intro o'
    rw [hg]
    walk_at "m_sub"
  have hfor : ∀ p ∈ pre ++ (wd, o) :: post, p.1 ≠ wd → p ∈ pre ++ post := by
    intro p hp hne
    rcases List.mem_append.mp hp with hp | hp
    · exact List.mem_append.mpr (.inl hp)
    · rcases List.mem_cons.mp hp with rfl | hp
      · exact absurd rfl hne
      · exact List.mem_append.mpr (.inr hp)
  replace h1 := hfor _ h1 n1
  replace h2 := hfor _ h2 n2
  clear N hfor
  generalize pre ++ post = rest at *
  have hW0 : MemIs [] (fun _ => 0) := fun k => .inl ⟨rfl, rfl⟩
  walk_at "m_cls"
  k_steps
  rename_i q1 _ _ _ _ o9 k9 hD9 q2 hW9 _ _ _ _ _ _ _ _ _ kN _ _
  refine hret _ _ _ _ ⟨_, o9, k9, _, rfl, rfl, hD9, by omega, hW9⟩ (by assumption) (News.sub kN ?_)
  intro p hp
  have hb := hback _ p hp
  iterate 4 (refine List.mem_cons_of_mem _ ?_)
  exact hb
theorem use_memory {dp' un' : Nat} {mean : ExcName → Option Value} {mg mb : Str → Option Value} {gd : Option (List Code)} {cn : Str} {cs : Scope} {a0 : Addr} {ccd : Value} {cl : List (Str × Addr)} {outer : List Env} {A₀ : Around} {base0 h₀ : Heap} {L0 : Addr} {m0 : Str → Option Value} {s : Shared} {Q E0 : Value → Shared → Prop} (w : World) (sz : Int) (ts : Tok) (news : Led)
    (B : Below A₀ base0 outer h₀) (F : Fr h₀ L0 s.heap m0) (X : (hd.heap_1 w.params).In h₀) (N : News h₀ L0 s.heap news) (T : Top hd.view_1 (looseW hd.view_1 []) mean mg mb h₀) (hk : cs.kind = .function) (hd' : dp' ≤ 410) (hu : un' ≤ 4100)
    (k0 : ∀ h' tk', Fr h₀ L0 h' m0 → ∀ (x dx wd : Addr) (t : Nat → Tok) (o : Obj), (wd == sysModules) = false → o.IsDictOf (intKind PySem.Challenge.rw_nu0347_01.row.prog w) [] → News h₀ L0 h' ((wd, o) :: (x, instObj 315 dx) :: (dx, dictOf [ent w "size" (t 0) (.int sz ts), ent w "words" (t 2) (.ref wd)] 2) :: news) → (∀ q ∈ news, q.1 < dx) → (∀ q ∈ news, q.1 < x) → (∀ q ∈ news, q.1 < wd) → @LT.lt Nat _ dx x → @LT.lt Nat _ x wd → Q (.ref x) { s with heap := h', toks := tk' }) :
    wpAny (model PySem.Challenge.rw_nu0347_01.row.prog w) (ktrTop dp' un' gd cn cs L0 a0 ccd cl outer) (call (.ref 315) [.int sz ts]) Q E0 s :=
  Call.use B F X N T hk (memory_spec w sz ts news) hd' hu fun r news' h' tk' hp F' N' => by
    obtain ⟨x, dx, wd, t, o, rfl, rfl, lo, hD, q1, q2, q3, q4, q5⟩ := hp
    exact k0 _ _ F' x dx wd t o lo hD N' q1 q4 q5 q2 q3
theorem line_29 : True := by
  (k_with "call ref" => (k_here; k_dflt (refine' use_memory _ _ _ _ ?q9B ?q9F ?q9X ?q9N ?q9T ?q9hk ?q9hd ?q9hu ?_; walk_at "m_used"; k_whole); intro _ _ _ _ _ _ _ _ _ _ _; intro q1; (try k_lt q1); revert q1; intro _; intro q1; (try k_lt q1); revert q1; intro _; intro q1; (try k_lt q1); revert q1; intro _; intro _ _; walk_at "m_on"))
  trivial
theorem use_cpu {dp' un' : Nat} {mean : ExcName → Option Value} {mg mb : Str → Option Value} {gd : Option (List Code)} {cn : Str} {cs : Scope} {a0 : Addr} {ccd : Value} {cl : List (Str × Addr)} {outer : List Env} {A₀ : Around} {base0 h₀ : Heap} {L0 : Addr} {m0 : Str → Option Value} {s : Shared} {Q E0 : Value → Shared → Prop} (w : World) (mem : Addr) (news : Led)
    (B : Below A₀ base0 outer h₀) (F : Fr h₀ L0 s.heap m0) (X : (hd.heap_1 w.params).In h₀) (N : News h₀ L0 s.heap news) (T : Top hd.view_1 (looseW hd.view_1 []) mean mg mb h₀) (hk : cs.kind = .function) (hd' : dp' ≤ 410) (hu : un' ≤ 4100)
    (k0 : ∀ h' tk', Fr h₀ L0 h' m0 → ∀ (x dx regs rl : Addr) (t : Nat → Tok) (y : Nat → Value) (tp tz : Tok), News h₀ L0 h' ((rl, listOf #[] 0) :: (regs, listOf (List.replicate 16 (.int 0 tz)).toArray 0) :: (x, instObj 259 dx) :: (dx, cpuDict w t y regs rl 0 tp) :: news) → (∀ q ∈ news, q.1 < dx) → (∀ q ∈ news, q.1 < x) → (∀ q ∈ news, q.1 < regs) → (∀ q ∈ news, q.1 < rl) → @LT.lt Nat _ dx x → @LT.lt Nat _ x regs → @LT.lt Nat _ regs rl → Q (.ref x) { s with heap := h', toks := tk' }) :
    wpAny (model PySem.Challenge.rw_nu0347_01.row.prog w) (ktrTop dp' un' gd cn cs L0 a0 ccd cl outer) (call (.ref 259) [.ref mem]) Q E0 s :=
  Call.use B F X N T hk (cpu_spec w mem news) hd' hu fun r news' h' tk' hp F' N' => by
    obtain ⟨x, dx, r9, rl, t, y, tp, tz, rfl, rfl, q1, q2, q3, q4, q5, q6, q7⟩ := hp
    exact k0 _ _ F' x dx r9 rl t y tp tz N' q1 q5 q6 q7 q2 q3 q4
theorem line_30 : True := by
  (k_with "call ref" => (k_here; k_dflt (refine' use_cpu _ _ _ ?q9B ?q9F ?q9X ?q9N ?q9T ?q9hk ?q9hd ?q9hu ?_; walk_at "m_used"; k_whole); intro _ _ _ _ _ _ _ _ _ _ _ _; intro q1; (try k_lt q1); revert q1; intro _; intro q1; (try k_lt q1); revert q1; intro _; intro q1; (try k_lt q1); revert q1; intro _; intro q1; (try k_lt q1); revert q1; intro _; intro _ _ _; walk_at "m_on"))
  trivial
theorem use_heap {dp' un' : Nat} {mean : ExcName → Option Value} {mg mb : Str → Option Value} {gd : Option (List Code)} {cn : Str} {cs : Scope} {a0 : Addr} {ccd : Value} {cl : List (Str × Addr)} {outer : List Env} {A₀ : Around} {base0 h₀ : Heap} {L0 : Addr} {m0 : Str → Option Value} {s : Shared} {Q E0 : Value → Shared → Prop} (w : World) (mem md wd : Addr) (start limit sz : Int) (hs : start = 128) (hlm : limit = 192) (hsz : 136 ≤ sz) (ta tb t1 t2 t3 : Tok) (o : Obj) (news : Led) (g : Obj → Led) (h1 : (mem, instObj 315 md) ∈ news) (h2 : (md, dictOf [ent w "size" t1 (.int sz t2), ent w "words" t3 (.ref wd)] 2) ∈ news) (U : UpdF wd o news g) (lo : (wd == sysModules) = false) (hD : o.IsDictOf (intKind PySem.Challenge.rw_nu0347_01.row.prog w) []) (n1 : mem ≠ wd) (n2 : md ≠ wd)
    (B : Below A₀ base0 outer h₀) (F : Fr h₀ L0 s.heap m0) (X : (hd.heap_1 w.params).In h₀) (N : News h₀ L0 s.heap news) (T : Top hd.view_1 (looseW hd.view_1 []) mean mg mb h₀) (hk : cs.kind = .function) (hd' : dp' ≤ 410) (hu : un' ≤ 4100)
    (k0 : ∀ h' tk', Fr h₀ L0 h' m0 → ∀ hp o' kvs' W, o'.IsDictOf (intKind PySem.Challenge.rw_nu0347_01.row.prog w) kvs' → kvs'.length ≤ 2 → MemIs kvs' W → News h₀ L0 h' (g o') → Q (.ref hp) { s with heap := h', toks := tk' }) :
    wpAny (model PySem.Challenge.rw_nu0347_01.row.prog w) (ktrTop dp' un' gd cn cs L0 a0 ccd cl outer) (call (.ref 157) [.ref mem, .int start ta, .int limit tb]) Q E0 s :=
  Call.use B F X N T hk (heap_spec w mem md wd start limit sz hs hlm hsz ta tb t1 t2 t3 o news g h1 h2 U lo hD n1 n2) hd' hu fun r news' h' tk' hp F' N' => by
    obtain ⟨x, o1, kvs1, W1, rfl, rfl, hD1, hl1, hW1⟩ := hp
    exact k0 _ _ F' x o1 kvs1 W1 hD1 hl1 hW1 N'
theorem line_31 : True := by
  (k_with "call ref" => (k_here; (with_reducible show wpAny _ _ (call (Value.ref 157) _) _ _ _); k_dflt (refine' use_heap _ _ _ _ _ _ _ ?q9hs ?q9hlm ?q9hsz _ _ _ _ _ _ _ _ ?q9h1 ?q9h2 ?q9U ?q9lo ?q9hD ?q9n1 ?q9n2 ?q9B ?q9F ?q9X ?q9N ?q9T ?q9hk ?q9hd ?q9hu ?_; walk_at "m_used"; (case q9hs => first | rfl | decide); (case q9hlm => first | rfl | decide); (case q9h1 => k_mem); (case q9h2 => k_mem); (case q9hsz => decide); (case q9U => k_updF); (case q9lo => k_asm); (case q9hD => k_asm); (case q9n1 => exact Nat.ne_of_lt (by assumption)); (case q9n2 => exact Nat.ne_of_lt (Nat.lt_trans (by assumption) (by assumption))); k_whole); intro _ _ _ _ _ _ _ _ _ _; intro N'; (try dsimp only at N'); revert N'; intro _; walk_at "m_on"))
  trivial
set_option maxHeartbeats 2000000
theorem fill_CF : (fun (_ : OpenLaw) (_ : Params → Frag) => True) PySem.Challenge.rw_nu0347_01 hd.heap_1 := by
  w_top off
  k_fill
  trivial
theorem machine_spec (w : World) (t1 t2 t3 t4 : Tok) (news : Led) :
    Call 400 4000 w 407 [.int 64 t1, .int 512 t2, .int 100 t3, .int 64 t4] news (fun r news' => ∃ (mach md mem memd wd cpu cpud regs rl ll T : Addr) (t t' t'' : Nat → Tok) (y y' : Nat → Value) (tp tz : Tok) (rn : Nat) (o : Obj) (kvs : List (Int × Value)) (W : Int → Int), r = .ref mach ∧
      news' = (regs, listOf (List.replicate 16 (.int 0 tz)).toArray 0) :: (rl, listOf [.ref T].toArray rn) :: (ll, listOf #[] 0) :: (wd, o) :: (cpud, cpuDict w t' y' regs rl 0 tp) :: (mach, instObj 407 md) :: (md, machDict w t y mem cpu ll) :: (cpu, instObj 259 cpud) :: (mem, instObj 315 memd) ::
        (memd, dictOf [ent w "size" (t'' 0) (.int 720 (t'' 1)), ent w "words" (t'' 2) (.ref wd)] 2) :: news ∧
      (wd == sysModules) = false ∧ o.IsDictOf (intKind PySem.Challenge.rw_nu0347_01.row.prog w) kvs ∧ kvs.length ≤ 2 ∧ MemIs kvs W ∧
      (∀ q ∈ news, q.1 < md) ∧ md < mach ∧ mach < memd ∧ memd < mem ∧ mem < wd ∧ wd < cpud ∧ cpud < cpu ∧ cpu < regs ∧ regs < rl ∧ rl < ll) := by
  unfold Call
  intro mean mg mb gd cn cs a ccd cl outer A₀ base' h₀ L m s Q E B F X N T hk hret
  walk_at "m_cls"
  k_steps
  rename_i mach md _ _ _ z0 z1 _ _ _ _ _ _ _ _ _ _ _ _ _ _ _ _ _ _ _ _ _ _ _ _ _ _ _ _ _ _ _ _ _ _ _ _ _ _ _ _ _ _ _ _ _ _ _ _ _ _ _ _ _ _ _ _ _ mem memd wd _ _ lo _ z2 _ _ z3 z4 _ _ _ _ _ _ _ o9 k9 W9 hD9 hl9 hW9 _ _ _ _ _ _ cpu cpud regs rl _ _ _ _ z5 _ _ _ z6 z7 z8 _ _ TR _ _ _ _ ll _ z9 _ _ _ _ _ _ _ _ _ _ _ _ _ _ _ _ kN _ _
  have e720 : (64 + (64 + 16 - 1 : Int).fdiv 16 * 16 + (64 + 16 - 1 : Int).fdiv 16 * 16 + 16 + (512 + 16 - 1 : Int).fdiv 16 * 16 : Int) = 720 := by decide
  have e208 : (64 + (64 + 16 - 1 : Int).fdiv 16 * 16 + (64 + 16 - 1 : Int).fdiv 16 * 16 + 16 : Int) = 208 := by decide
  rw [e720, e208] at kN
  refine' hret _ _ _ _ ⟨mach, md, mem, memd, wd, cpu, cpud, regs, rl, ll, TR, (fun i => [_, _, _, _, _, _, _, _, _, _, _, _].getD i 0), _, (fun i => [_, _, _].getD i 0), (fun i => [_, _, _, _, _, _, _].getD i .none), _, _, _, _, o9, k9, W9, rfl, rfl, lo, hD9, hl9, hW9, z0, z1, z2.1, z3, z4, z5.1, z6, z7, z8, z9.2.1⟩ (by assumption) (News.sub kN ?sub)
  case sub =>
    intro p hp
    rcases List.mem_cons.mp hp with e | hp
    · rw [e]
      iterate 5 (refine List.mem_cons_of_mem _ ?_)
      exact List.mem_cons_self
    rcases List.mem_cons.mp hp with e | hp
    · rw [e]
      iterate 4 (refine List.mem_cons_of_mem _ ?_)
      exact List.mem_cons_self
    rcases List.mem_cons.mp hp with e | hp
    · rw [e]
      iterate 2 (refine List.mem_cons_of_mem _ ?_)
      exact List.mem_cons_self
    rcases List.mem_cons.mp hp with e | hp
    · rw [e]
      iterate 8 (refine List.mem_cons_of_mem _ ?_)
      exact List.mem_cons_self
    rcases List.mem_cons.mp hp with e | hp
    · rw [e]
      iterate 7 (refine List.mem_cons_of_mem _ ?_)
      exact List.mem_cons_self
    rcases List.mem_cons.mp hp with e | hp
    · rw [e]
      iterate 11 (refine List.mem_cons_of_mem _ ?_)
      exact List.mem_cons_self
    rcases List.mem_cons.mp hp with e | hp
    · rw [e]
      iterate 12 (refine List.mem_cons_of_mem _ ?_)
      exact List.mem_cons_self
    rcases List.mem_cons.mp hp with e | hp
    · rw [e]
      iterate 6 (refine List.mem_cons_of_mem _ ?_)
      exact List.mem_cons_self
    rcases List.mem_cons.mp hp with e | hp
    · rw [e]
      iterate 9 (refine List.mem_cons_of_mem _ ?_)
      exact List.mem_cons_self
    rcases List.mem_cons.mp hp with e | hp
    · rw [e]
      iterate 10 (refine List.mem_cons_of_mem _ ?_)
      exact List.mem_cons_self
    · iterate 13 (refine List.mem_cons_of_mem _ ?_)
      exact hp
theorem use_machine {dp' un' : Nat} {mean : ExcName → Option Value} {mg mb : Str → Option Value} {gd : Option (List Code)} {cn : Str} {cs : Scope} {a0 : Addr} {ccd : Value} {cl : List (Str × Addr)} {outer : List Env} {A₀ : Around} {base0 h₀ : Heap} {L0 : Addr} {m0 : Str → Option Value} {s : Shared} {Q E0 : Value → Shared → Prop} (w : World) (t1 t2 t3 t4 : Tok) (news : Led)
    (B : Below A₀ base0 outer h₀) (F : Fr h₀ L0 s.heap m0) (X : (hd.heap_1 w.params).In h₀) (N : News h₀ L0 s.heap news) (T : Top hd.view_1 (looseW hd.view_1 []) mean mg mb h₀) (hk : cs.kind = .function) (hd' : dp' ≤ 400) (hu : un' ≤ 4000)
    (k0 : ∀ h' tk', Fr h₀ L0 h' m0 → ∀ (mach md mem memd wd cpu cpud regs rl ll T1 : Addr) (t t' t'' : Nat → Tok) (y y' : Nat → Value) (tp tz : Tok) (rn : Nat) (o : Obj) (kvs : List (Int × Value)) (W : Int → Int), (wd == sysModules) = false → o.IsDictOf (intKind PySem.Challenge.rw_nu0347_01.row.prog w) kvs → kvs.length ≤ 2 → MemIs kvs W → News h₀ L0 h' ((regs, listOf (List.replicate 16 (.int 0 tz)).toArray 0) :: (rl, listOf [.ref T1].toArray rn) :: (ll, listOf #[] 0) :: (wd, o) :: (cpud, cpuDict w t' y' regs rl 0 tp) :: (mach, instObj 407 md) :: (md, machDict w t y mem cpu ll) :: (cpu, instObj 259 cpud) :: (mem, instObj 315 memd) :: (memd, dictOf [ent w "size" (t'' 0) (.int 720 (t'' 1)), ent w "words" (t'' 2) (.ref wd)] 2) :: news) → (∀ q ∈ news, q.1 < md) → @LT.lt Nat _ md mach → @LT.lt Nat _ mach memd → @LT.lt Nat _ memd mem → @LT.lt Nat _ mem wd → @LT.lt Nat _ wd cpud → @LT.lt Nat _ cpud cpu → @LT.lt Nat _ cpu regs → @LT.lt Nat _ regs rl → @LT.lt Nat _ rl ll → Q (.ref mach) { s with heap := h', toks := tk' }) :
    wpAny (model PySem.Challenge.rw_nu0347_01.row.prog w) (ktrTop dp' un' gd cn cs L0 a0 ccd cl outer) (call (.ref 407) [.int 64 t1, .int 512 t2, .int 100 t3, .int 64 t4]) Q E0 s :=
  Call.use B F X N T hk (machine_spec w t1 t2 t3 t4 news) hd' hu fun r news' h' tk' hp F' N' => by
    obtain ⟨mach, md, mem, memd, wd, cpu, cpud, regs, rl, ll, TR, t, t', t'', y, y', tp, tz, rn, o, kvs, W, rfl, rfl, lo, hD, hl, hW, z0, z1, z2, z3, z4, z5, z6, z7, z8, z9⟩ := hp
    exact k0 _ _ F' mach md mem memd wd cpu cpud regs rl ll TR t t' t'' y y' tp tz rn o kvs W lo hD hl hW N' z0 z1 z2 z3 z4 z5 z6 z7 z8 z9
set_option maxHeartbeats 1000000
theorem line_32 : True := by
  (k_with "m_sub2" => first | exact List.forall_mem_nil _ | (refine List.forall_mem_cons.mpr ⟨by k_mem, ?_⟩; walk_at "m_sub2") | (intro p hp; repeat (first | with_reducible exact hp | refine List.mem_cons_of_mem _ ?_)))
  trivial
theorem mem_rot3 {a b c : Addr × Obj} {X R : Led} : ∀ p ∈ a :: b :: c :: (X ++ R), p ∈ X ++ a :: b :: c :: R := by
  intro p hp
  simp only [List.mem_cons, List.mem_append] at hp ⊢
  rcases hp with h | h | h | h | h <;> simp [h]
theorem mem_due {a b c d e : Addr × Obj} {X R : Led} : ∀ p ∈ a :: b :: c :: d :: (e :: (X ++ R)), p ∈ e :: (X ++ a :: b :: c :: d :: R) := by
  intro p hp
  simp only [List.mem_cons, List.mem_append] at hp ⊢
  rcases hp with h | h | h | h | h | h | h <;> simp [h]
theorem mem_due1 {z a b c d e : Addr × Obj} {X R : Led} : ∀ p ∈ a :: b :: c :: d :: (e :: (X ++ R)), p ∈ e :: (X ++ z :: a :: b :: c :: d :: R) := by
  intro p hp
  simp only [List.mem_cons, List.mem_append] at hp ⊢
  rcases hp with h | h | h | h | h | h | h <;> simp [h]
theorem mem_e {a b c d e : Addr × Obj} {R : Led} : ∀ p ∈ a :: b :: c :: d :: e :: R, p ∈ e :: a :: b :: c :: d :: R := by
  intro p hp
  simp only [List.mem_cons] at hp ⊢
  rcases hp with h | h | h | h | h | h <;> simp [h]
theorem mem_two {a b e : Addr × Obj} {X R : Led} : ∀ p ∈ a :: b :: (e :: (X ++ R)), p ∈ e :: (X ++ a :: b :: R) := by
  intro p hp
  simp only [List.mem_cons, List.mem_append] at hp ⊢
  rcases hp with h | h | h | h | h <;> simp [h]
theorem nx_two {a b : Addr × Obj} {R R' : Led} (h : ∀ p ∈ R, p ∈ R') : ∀ p ∈ a :: b :: R, p ∈ a :: b :: R' := by
  intro p hp
  rcases List.mem_cons.mp hp with e | hp
  · rw [e]; exact .head _
  rcases List.mem_cons.mp hp with e | hp
  · rw [e]; exact .tail _ (.head _)
  · exact .tail _ (.tail _ (h p hp))
theorem Call.mono {dp un : Nat} {w : World} {f : Addr} {args : List Value} {news : Led} {P P' : Value → Led → Prop} (h : Call dp un w f args news P) (hp : ∀ r n, P r n → P' r n) : Call dp un w f args news P' := by
  unfold Call at h ⊢
  intro mean mg mb gd cn cs a ccd cl outer A₀ base h₀ L m s Q E B F X N T hk hret
  exact h mean mg mb gd cn cs a ccd cl outer A₀ base h₀ L m s Q E B F X N T hk (fun r news' h' tk' p F' N' => hret r news' h' tk' (hp r news' p) F' N')
theorem ModsAre.ok {w : World} {news : Led} : ∀ {vs : List Value} {ms : List MD}, ModsAre w news vs ms → ∀ m ∈ ms, m.d.Ok
  | _, _, .nil => by simp
  | _, _, .cons h r => by
    intro m hm
    rcases List.mem_cons.mp hm with rfl | hm
    · obtain ⟨_, _, _, _, _, _, _, ho⟩ := h; exact ho
    · exact r.ok m hm
theorem find_mem {ms : List MD} {row : Int} {m : MD} (h : findMod ms row = some m) : m ∈ ms := List.mem_of_find?_eq_some h
theorem tell_one_none {ms : List MD} {row : Int} (h : findMod ms row = none) : tellRows ms [row] = [] := by
  simp [tellRows, tellRow, h]
theorem tell_one_some {ms : List MD} {row : Int} {m : MD} (h : findMod ms row = some m) : tellRows ms [row] = [datOf (m.name, row - m.base, nearest m.d (row - m.base))] := by
  simp [tellRows, tellRow, h]
theorem line2_spec (w : World) (mach md mem cpu ll : Addr) (t : Nat → Tok) (y : Nat → Value) (lvs : List Value) (ln : Nat) (ms : List MD) (row : Int) (tr : Tok) (news : Led)
    (h1 : (mach, instObj 407 md) ∈ news) (h2 : (md, machDict w t y mem cpu ll) ∈ news) (h3 : (ll, listOf lvs.toArray ln) ∈ news) (h4 : ModsAre w news lvs ms) :
    Call 390 3900 w 467 [.ref mach, .int row tr] news (fun r news' => ∃ D dv tp, r = .ref D ∧ news' = (D, listOf (List.toArray dv) 0) :: (tp ++ news) ∧ (∀ q ∈ news, q.1 < D) ∧ (∀ p ∈ tp, p.1 < D ∧ ∀ q ∈ news, q.1 < p.1) ∧ DatAll tp dv (tellRows ms [row]) ∧
      ((findMod ms row = none ∧ dv = [] ∧ tp = []) ∨ ∃ m T t1 t2 t3, findMod ms row = some m ∧ dv = [.ref T] ∧ tp = [(T, ({ cls := .type "tuple", data := .seq #[.str m.name t1, .int (row - m.base) t2, .str (nearest m.d (row - m.base)) t3] 0 } : Obj))])) := by
  refine Call.mono (line_spec w mach md mem cpu ll t y lvs ln ms row tr news h1 h2 h3 h4) ?_
  rintro r n (⟨D, f1, rfl, rfl, l1⟩ | ⟨m, D, T, t1, t2, t3, f1, rfl, rfl, l1, l2⟩)
  · exact ⟨D, [], [], rfl, rfl, l1, by simp, by rw [tell_one_none f1]; exact .nil, .inl ⟨f1, rfl, rfl⟩⟩
  · have ho := h4.ok m (find_mem f1)
    rw [lawName_eq m.d _ ho.body ho.ents]
    refine ⟨D, [.ref T], [(T, _)], rfl, rfl, fun q hq => Nat.lt_trans (l1 q hq) l2, ?_, ?_, .inr ⟨m, T, t1, t2, t3, f1, rfl, rfl⟩⟩
    · intro p hp
      rw [List.mem_singleton.mp hp]
      exact ⟨l2, l1⟩
    · rw [tell_one_some f1]
      exact .cons (.tuple (vs := [.str m.name t1, .int _ t2, .str _ t3]) (.head _) (.cons (.str _ _) (.cons (.int _ _) (.cons (.str _ _) .nil)))) .nil
theorem add_mem {prog : Program} {w : World} {A : Around} {E : Value → Shared → Prop} {s : Shared} {h₀ : Heap} {L a b : Addr} {m : Str → Option Value} {news : Led} {vs us : List Value} {n k : Nat} {Q : Value → Shared → Prop} (F : Fr h₀ L s.heap m) (N : News h₀ L s.heap news)
    (ha : (a, listOf vs.toArray n) ∈ news) (hb : (b, listOf us.toArray k) ∈ news) (hz : vs.length ≤ 1000) (hz2 : us.length ≤ 1000)
    (h : ∀ D h', Fr h₀ L h' m → News h₀ L h' ((D, listOf (vs ++ us).toArray 0) :: news) → (∀ p ∈ news, p.1 < D) → Q (.ref D) { s with heap := h' }) : wpAny (model prog w) A (binaryOp .Add (.ref a) (.ref b)) Q E s := by
  refine add_lists F N ⟨_, (N _ ha).1, rfl, n, rfl⟩ ⟨_, (N _ hb).1, rfl, k, rfl⟩ (fun h' F' N' => h _ h' F' N' fun p hp => Heap.lt_size (N p hp).1) ?_
  rw [sizeLine_eq]; omega
/-- all that is told can be laid -/
noncomputable def NamesOk (ms : List MD) : Prop := ∀ m ∈ ms, m.name = Str.ofString "M" ∨ m.name = Str.ofString "Out" ∨ m.name = Str.ofString "N"
theorem nearest_ok (d : OD) (row : Int) : PyData.strOk (nearest d row) = true := by
  have h : ∀ (l : List (Str × Int)) (s : Int × Str), PyData.strOk s.2 = true → (∀ e ∈ l, PyData.strOk e.1 = true) → PyData.strOk (l.foldl (cmdStep row) s).2 = true := by
    intro l
    induction l with
    | nil => intro s hs _; exact hs
    | cons e r ih =>
      intro s hs hl
      refine ih _ ?_ (fun x hx => hl x (.tail _ hx))
      unfold cmdStep
      split
      · exact hl e (.head _)
      · exact hs
  have hw : ∀ e ∈ wordsOf d.cmds, PyData.strOk e.1 = true := by
    intro e he
    have h1 : e.1 ∈ [Str.ofString "P", Str.ofString "Q", Str.ofString "R"] := by
      obtain ⟨a, b⟩ := e
      exact (List.of_mem_zip he).1
    simp only [List.mem_cons, List.not_mem_nil, or_false] at h1
    rcases h1 with e | e | e <;> rw [e] <;> decide +kernel
  unfold nearest
  refine h _ _ ?_ hw
  split
  · show PyData.strOk (Str.ofString "body") = true; decide +kernel
  · show PyData.strOk (Str.ofString "") = true; decide +kernel
theorem tell_ok {ms : List MD} (hN : NamesOk ms) (rows : List Int) : ∀ d ∈ tellRows ms rows, kqdOk 8 d = true := by
  intro d hd
  unfold tellRows at hd
  obtain ⟨l, hl, rfl⟩ := List.mem_map.mp hd
  obtain ⟨row, _, hr⟩ := List.mem_filterMap.mp hl
  unfold tellRow at hr
  obtain ⟨m, hm, rfl⟩ := Option.map_eq_some_iff.mp hr
  have hn : PyData.strOk m.name = true := by
    rcases hN m (find_mem hm) with e | e | e <;> rw [e] <;> decide +kernel
  simp [datOf, kqdOk, hn, nearest_ok]
theorem tell_append (ms : List MD) (a b : List Int) : tellRows ms (a ++ b) = tellRows ms a ++ tellRows ms b := by
  simp [tellRows]
theorem eq_lines {prog : Program} {w : World} {A : Around} {E : Value → Shared → Prop} {s : Shared} {h₀ : Heap} {L a b : Addr} {news n₁ n₂ : Led} {xs ys : List Value} {ka kb : Nat} {ds es : List Dat} {Q : Value → Shared → Prop} (N : News h₀ L s.heap news)
    (ma : (a, listOf xs.toArray ka) ∈ news) (Da : DatAll n₁ xs ds) (sa : ∀ p ∈ n₁, p ∈ news) (mb : (b, listOf ys.toArray kb) ∈ news) (Db : DatAll n₂ ys es) (sb : ∀ p ∈ n₂, p ∈ news) (he : ds = es) (ha : ∀ d ∈ ds, kqdOk 8 d = true) (hu : A.units + 64 < cLine)
    (h : Q (.bool true) s) : wpAny (model prog w) A (compareOp .Eq (.ref a) (.ref b)) Q E s := by
  subst he
  refine kqd_eq N ma rfl rfl Da sa mb rfl rfl Db sb ha ha hu ?_
  simpa using h
theorem ne_empty {prog : Program} {w : World} {A : Around} {E : Value → Shared → Prop} {s : Shared} {h₀ : Heap} {L a b : Addr} {news n₁ : Led} {xs : List Value} {ka kb : Nat} {ds : List Dat} {Q : Value → Shared → Prop} (N : News h₀ L s.heap news)
    (ma : (a, listOf xs.toArray ka) ∈ news) (Da : DatAll n₁ xs ds) (sa : ∀ p ∈ n₁, p ∈ news) (mb : (b, listOf #[] kb) ∈ news) (ha : ∀ d ∈ ds, kqdOk 8 d = true) (hu : A.units + 64 < cLine)
    (h : Q (.bool (!ds.isEmpty)) s) : wpAny (model prog w) A (compareOp .NotEq (.ref a) (.ref b)) Q E s := by
  refine kqd_ne N ma rfl rfl Da sa mb rfl rfl (ys := []) (n₂ := []) .nil (fun _ h => nomatch h) ha (fun _ h => nomatch h) hu ?_
  cases ds with
  | nil => simpa using h
  | cons d r => simpa using h
/-- a part of the frames: from a on, ending ahead of e; all of it below e -/
inductive Seg (W : Int → Int) : Int → List Int → Int → Prop
  | nil (a : Int) : Seg W a [] a
  | cons {a a' b e : Int} {bs : List Int} : W (((a - 4).fmod 4294967296).fdiv 4) = b → W (((a - 8).fmod 4294967296).fdiv 4) = a' → 216 ≤ a → a ≤ 700 → a + 12 ≤ a' → Seg W a' bs e → Seg W a (b :: bs) e
theorem Seg.le {W : Int → Int} {a e : Int} {bs : List Int} (h : Seg W a bs e) : a ≤ e := by
  induction h with
  | nil => exact Int.le_refl _
  | cons _ _ _ _ h1 _ ih => omega
theorem place_of {a : Int} (h : 216 ≤ a) (h2 : a ≤ 1000) : ((a - 4).fmod 4294967296).fdiv 4 = (a - 4) / 4 ∧ ((a - 8).fmod 4294967296).fdiv 4 = (a - 8) / 4 := by
  rw [Int.fmod_eq_emod_of_nonneg _ (by decide), Int.fmod_eq_emod_of_nonneg _ (by decide), Int.fdiv_eq_ediv_of_nonneg _ (by decide), Int.fdiv_eq_ediv_of_nonneg _ (by decide)]
  constructor
  · rw [Int.emod_eq_of_lt (by omega) (by omega)]
  · rw [Int.emod_eq_of_lt (by omega) (by omega)]
theorem fdiv4 (a : Int) : a.fdiv 4 = a / 4 := Int.fdiv_eq_ediv_of_nonneg _ (by decide)
/-- what is put behind the part leaves it -/
theorem Seg.put {W : Int → Int} {a e : Int} {bs : List Int} (h : Seg W a bs e) (k v : Int) (hk : e - 11 ≤ 4 * k) : Seg (fun j => if j = k then v else W j) a bs e := by
  induction h with
  | nil => exact .nil _
  | cons h1 h2 h3 h4 h5 r ih =>
    rename_i a a' b e bs
    have hle := r.le
    obtain ⟨p1, p2⟩ := place_of h3 (by omega)
    refine .cons ?_ ?_ h3 h4 h5 (ih hk)
    · rw [p1] at h1 ⊢; rw [if_neg (by omega)]; exact h1
    · rw [p2] at h2 ⊢; rw [if_neg (by omega)]; exact h2
theorem Seg.snoc {W : Int → Int} {a e e' b : Int} {bs : List Int} (h : Seg W a bs e) (h1 : W (((e - 4).fmod 4294967296).fdiv 4) = b) (h2 : W (((e - 8).fmod 4294967296).fdiv 4) = e') (h3 : 216 ≤ e) (h4 : e ≤ 700) (h5 : e + 12 ≤ e') : Seg W a (bs ++ [b]) e' := by
  induction h with
  | nil => exact .cons h1 h2 h3 h4 h5 (.nil _)
  | cons q1 q2 q3 q4 q5 _ ih => exact .cons q1 q2 q3 q4 q5 (ih h1 h2 h3 h4 h5)
theorem Seg.last {W : Int → Int} {a e b : Int} {bs : List Int} (h : Seg W a bs e) (h1 : W (((e - 4).fmod 4294967296).fdiv 4) = b) (h2 : W (((e - 8).fmod 4294967296).fdiv 4) = 0) (h3 : 216 ≤ e) (h4 : e ≤ 700) : Linked W a (bs ++ [b]) := by
  induction h with
  | nil => exact .cons h1 h2 h3 h4 .nil
  | cons q1 q2 q3 q4 q5 _ ih => exact .cons q1 q2 q3 q4 (ih h1 h2 h3 h4)
/-- the frames as the law lays them -/
noncomputable def Frames (W : Int → Int) (many i : Nat) (bs : List Int) (spot : Int) : Prop := (i < many ∧ Seg W 216 bs spot) ∨ (i = many ∧ Linked W (if 0 < many then 216 else 0) bs)
theorem frames_start (W : Int → Int) (many : Nat) : Frames W many 0 [] 216 := by
  by_cases h : 0 < many
  · exact .inl ⟨h, .nil _⟩
  · refine .inr ⟨by omega, ?_⟩; rw [if_neg h]; exact .nil
theorem frames_step {W : Int → Int} {many i : Nat} {bs : List Int} {spot b next v2 : Int} (h : Frames W many i bs spot) (hi : i < many) (h3 : 216 ≤ spot) (h4 : spot ≤ 700) (h5 : spot + 12 ≤ next) (hv2 : v2 = if (i : Int) < (many : Int) - 1 then next else 0) :
    Frames (fun j => if j = (spot - 8).fdiv 4 then v2 else if j = (spot - 4).fdiv 4 then b else W j) many (i + 1) (bs ++ [b]) next := by
  subst hv2
  rcases h with ⟨_, h⟩ | ⟨h, _⟩
  · obtain ⟨p1, p2⟩ := place_of h3 (by omega)
    have hs : Seg (fun j => if j = (spot - 8).fdiv 4 then (if (i : Int) < (many : Int) - 1 then next else 0) else if j = (spot - 4).fdiv 4 then b else W j) 216 bs spot := by
      refine Seg.put (Seg.put h _ b ?_) _ _ ?_
      · rw [fdiv4]; omega
      · rw [fdiv4]; omega
    have q1 : (fun j => if j = (spot - 8).fdiv 4 then (if (i : Int) < (many : Int) - 1 then next else 0) else if j = (spot - 4).fdiv 4 then b else W j) (((spot - 4).fmod 4294967296).fdiv 4) = b := by
      dsimp only; rw [p1, fdiv4, fdiv4, if_neg (by omega), if_pos rfl]
    have q2 : (fun j => if j = (spot - 8).fdiv 4 then (if (i : Int) < (many : Int) - 1 then next else 0) else if j = (spot - 4).fdiv 4 then b else W j) (((spot - 8).fmod 4294967296).fdiv 4) = if (i : Int) < (many : Int) - 1 then next else 0 := by
      dsimp only; rw [p2, fdiv4, if_pos rfl]
    by_cases hl : (i : Int) < (many : Int) - 1
    · exact .inl ⟨by omega, hs.snoc q1 (q2.trans (if_pos hl)) h3 h4 h5⟩
    · have hm : 0 < many := by omega
      have hm2 : i + 1 = many := by omega
      refine .inr ⟨hm2, ?_⟩
      rw [if_pos hm]
      exact hs.last q1 (q2.trans (if_neg hl)) h3 h4
  · omega
theorem frames_end {W : Int → Int} {many : Nat} {bs : List Int} {spot : Int} (h : Frames W many many bs spot) : Linked W (if 0 < many then 216 else 0) bs := by
  rcases h with ⟨h, _⟩ | ⟨_, h⟩
  · omega
  · exact h
theorem chain_snoc (bs : List Int) (b : Int) : chainRows (bs ++ [b]) = chainRows bs ++ (if (∀ x ∈ bs, x ≠ 0) ∧ b ≠ 0 then [b - 1] else []) := by
  unfold chainRows
  induction bs with
  | nil => by_cases h : b = 0 <;> simp [h]
  | cons a r ih =>
    by_cases ha : a = 0
    · simp [ha]
    · simp only [List.cons_append, List.takeWhile_cons, ha, ne_eq, not_false_eq_true, decide_true, if_true, List.map_cons] at ih ⊢
      rw [ih]
      simp [ha]
/-- the rows ahead of the frames, as the law has them -/
noncomputable def lawHead (ms : List MD) (pc link : Int) : List Int := [pc - 1] ++ (match findMod ms (pc - 1) with | none => [] | some m => if (m.name == Str.ofString "Out") = true ∧ link ≠ 0 then [link - 1] else [])
theorem head_eq {ms : List MD} (hN : NamesOk ms) (pc link : Int) (bs : List Int) : trapRows ms pc link bs = lawHead ms pc link ++ chainRows bs := by
  unfold trapRows lawHead
  congr 2
  cases hf : findMod ms (pc - 1) with
  | none => rfl
  | some m =>
    dsimp only
    have h : inOut m.name = (m.name == Str.ofString "Out") := by
      rcases hN m (find_mem hf) with e | e | e <;> rw [e] <;> decide +kernel
    rw [h]
theorem head_none {ms : List MD} {pc link : Int} (h : findMod ms (pc - 1) = none) : lawHead ms pc link = [pc - 1] := by
  unfold lawHead; rw [h]; rfl
theorem head_out {ms : List MD} {pc link : Int} {m : MD} (h : findMod ms (pc - 1) = some m) (ho : (m.name == Str.ofString "Out") = true) (hl : link ≠ 0) : lawHead ms pc link = [pc - 1] ++ [link - 1] := by
  unfold lawHead; rw [h]; dsimp only; rw [if_pos ⟨ho, hl⟩]
theorem head_zero {ms : List MD} {pc link : Int} {m : MD} (h : findMod ms (pc - 1) = some m) (hl : link = 0) : lawHead ms pc link = [pc - 1] := by
  unfold lawHead; rw [h]; dsimp only; rw [if_neg (fun z => z.2 hl)]; rfl
theorem head_not {ms : List MD} {pc link : Int} {m : MD} (h : findMod ms (pc - 1) = some m) (ho : (m.name == Str.ofString "Out") = false) : lawHead ms pc link = [pc - 1] := by
  unfold lawHead; rw [h]; dsimp only; rw [if_neg (fun z => by rw [ho] at z; exact absurd z.1 (by decide))]; rfl
theorem ne_nil {prog : Program} {w : World} {A : Around} {E : Value → Shared → Prop} {s : Shared} {h₀ : Heap} {L a b : Addr} {news : Led} {ka kb : Nat} {Q : Value → Shared → Prop} (N : News h₀ L s.heap news)
    (ma : (a, listOf (List.toArray ([] : List Value)) ka) ∈ news) (mb : (b, listOf #[] kb) ∈ news) (hu : A.units + 64 < cLine) (h : Q (.bool false) s) : wpAny (model prog w) A (compareOp .NotEq (.ref a) (.ref b)) Q E s :=
  ne_empty (xs := []) (ds := []) (n₁ := []) N ma .nil (fun _ h => nomatch h) mb (fun _ h => nomatch h) hu h
theorem ne_cons {prog : Program} {w : World} {A : Around} {E : Value → Shared → Prop} {s : Shared} {h₀ : Heap} {L a b : Addr} {news n₁ : Led} {v : Value} {r : List Value} {ka kb : Nat} {ds : List Dat} {Q : Value → Shared → Prop} (N : News h₀ L s.heap news)
    (ma : (a, listOf (List.toArray (v :: r)) ka) ∈ news) (Da : DatAll n₁ (v :: r) ds) (sa : ∀ p ∈ n₁, p ∈ news) (mb : (b, listOf #[] kb) ∈ news) (ha : ∀ d ∈ ds, kqdOk 8 d = true) (hu : A.units + 64 < cLine) (h : Q (.bool true) s) : wpAny (model prog w) A (compareOp .NotEq (.ref a) (.ref b)) Q E s := by
  refine ne_empty N ma Da sa mb ha hu ?_
  have hl := Da.length
  cases ds with
  | nil => simp at hl
  | cons d r => exact h
set_option maxHeartbeats 40000000
theorem fill_CK : (fun (_ : OpenLaw) (_ : Params → Frag) => True) PySem.Challenge.rw_nu0347_01 hd.heap_1 := by
  w_top off
  k_fill
  trivial
theorem law_row_use {dp' un' : Nat} {w : World} {sl : Addr} {svs : List Value} {sns : List Int} {mean : ExcName → Option Value} {mg mb : Str → Option Value} {gd : Option (List Code)} {cn : Str} {cs : Scope} {a : Addr} {ccd : Value} {cl : List (Str × Addr)} {outer : List Env} {A₀ : Around} {base h₀ : Heap} {L : Addr} {m : Str → Option Value} {s : Shared}
    {Q E : Value → Shared → Prop} (B : Below A₀ base outer h₀) (F : Fr h₀ L s.heap m) (X : (hd.heap_1 w.params).In h₀) (N : News h₀ L s.heap []) (T : Top hd.view_1 (looseW hd.view_1 []) mean mg mb h₀) (hk : cs.kind = .function) (hS : h₀.IsList sl svs.toArray) (hsi : IntsAre svs sns) (hsl : sns.length ≤ 63)
    (hd' : dp' ≤ 390) (hu : un' ≤ 3900)
    (hret : ∀ l vs n h' tk', RowOk vs → Fr h₀ L h' m → News h₀ L h' [(l, listOf vs.toArray n)] → Q (.ref l) { s with heap := h', toks := tk' }) :
    wpAny (model PySem.Challenge.rw_nu0347_01.row.prog w) (ktrTop dp' un' gd cn cs L a ccd cl outer) (call (.ref 439) [.ref sl]) Q E s :=
  wpAny_depth (law_row_spec w sl svs sns hsi hsl mean mg mb gd cn cs a ccd cl outer A₀ base h₀ L m s Q E B F X N T hk hS hret) rfl hd' rfl rfl hu
theorem line_33 : True := by
  (k_with "call ref" => (k_here; (with_reducible show wpAny _ _ (call (Value.ref 439) _) _ _ _); k_dflt (refine' law_row_use ?q9B ?q9F ?q9X ?q9N ?q9T ?q9hk ?q9hS ?q9hsi ?q9hsl ?q9hd ?q9hu ?_; walk_at "m_used"; (case q9hS => k_asm); (case q9hsi => k_asm); (case q9hsl => omega); k_whole); intro _ _ _ _ _ _ _ _; walk_at "m_on"))
  (k_with "call ref" => (k_here; (with_reducible show wpAny _ _ (call (Value.ref 407) _) _ _ _); k_dflt (refine' use_machine _ _ _ _ _ _ ?q9B ?q9F ?q9X ?q9N ?q9T ?q9hk ?q9hd ?q9hu ?_; walk_at "m_used"; k_whole); intro _ _ _ _ _ _ _ _ _ _ _ _ _ _ _ _ _ _ _ _ _ _ _ _ _ _ _ _ _ _; intro q1; (try k_lt q1); revert q1; intro _; intro _ _ _ _ _ _ _ _ _; walk_at "m_on"))
  (k_with "call ref" => (k_here; (with_reducible show wpAny _ _ (call (Value.ref 348) _) _ _ _); k_dflt (refine' use_add_rows _ _ _ _ _ _ _ _ _ _ _ _ _ _ _ _ _ _ _ _ _ _ ?q9h1 ?q9h2 ?q9h3 ?q9h4 ?q9h5 ?q9U ?q9n1 ?q9n2 ?q9n3 ?q9n4 ?q9n5 ?q9hz ?q9B ?q9F ?q9X ?q9N ?q9T ?q9hk ?q9hd ?q9hu ?_; walk_at "m_used"; (case q9h1 => k_mem); (case q9h2 => k_mem); (case q9h3 => k_mem); (case q9h4 => k_mem); (case q9h5 => k_mem); (case q9U => k_updF); (case q9n1 => k_asm); (case q9n2 => k_asm); (case q9n3 => k_asm); (case q9n4 => k_asm); (case q9n5 => k_asm); (case q9hz => k_asm); k_whole); intro _ _ _ _ _; intro N'; (try dsimp only at N'); revert N'; intro _; walk_at "m_on"))
  (k_with "call ref" => (k_here; (with_reducible show wpAny _ _ (call (Value.ref 453) _) _ _ _); k_dflt (refine (show HereStop (wpAny _ _ _ _ _ _) from ?_))))
  (k_with "call ref" => (k_here; (with_reducible show wpAny _ _ (call (Value.ref 467) _) _ _ _); k_dflt (refine (show HereStop (wpAny _ _ _ _ _ _) from ?_))))
  (k_with "exec If" => (k_here; (with_reducible show wpAny _ _ (exec (Stmt.If (PySem.Expr.BoolOp _ _ _) _ _ _) _) _ _ _); k_dflt (refine (show HereStop (wpAny _ _ _ _ _ _) from ?_))))
  (k_with "eval IfExp" => (k_here; k_dflt (refine (show HereStop (wpAny _ _ _ _ _ _) from ?_))))
  trivial
theorem tup_item {prog : Program} {w : World} {A : Around} {E : Value → Shared → Prop} {s : Shared} {h₀ : Heap} {L l : Addr} {news : Led} {vs : List Value} {n : Nat} {u : Tok} {v : Value} {value slice : PySem.Expr} {Q : Value → Shared → Prop} (N : News h₀ L s.heap news)
    (hp : (l, ({ cls := .type "tuple", data := .seq vs.toArray n } : Obj)) ∈ news) (hv : vs[0]? = some v) (h : Q v s)
    (hs : subscripted slice false (.ref l) (.int 0 u) = operate [.ref l, .int 0 u] (getItem (.ref l) (.int 0 u)) := by with_unfolding_all rfl) :
    wpAny (model prog w) A (subscriptTail value slice (.ref l) (.int 0 u)) Q E s := by
  have hl : 0 < vs.length := by cases vs with
    | nil => simp at hv
    | cons a r => simp
  exact item_tupleT ⟨_, (N _ hp).1, rfl, n, rfl⟩ (by decide) (by decide) (seqIndex?_zero hl) hv h hs
theorem line_34 : True := by
  (k_with "subscriptTail" => (k_here; (with_reducible show wpAny _ _ (subscriptTail _ _ (Value.ref _) (Value.int 0 _)) _ _ _); k_dflt (refine' tup_item ?q9N ?q9hp ?q9hv ?_ ?q9hs; (case q9N => k_asm); (case q9hp => k_mem); (case q9hv => rfl); (case q9hs => with_unfolding_all rfl))))
  (k_with "binaryOp Add ref ref" => (k_here; (with_reducible show wpAny _ _ (binaryOp Operator.Add (Value.ref _) (Value.ref _)) _ _ _); k_dflt ((refine' add_mem ?q9F ?q9N ?q9a ?q9b ?q9z ?q9z2 ?_; (case q9F => k_asm); (case q9N => k_asm); (case q9a => k_mem); (case q9b => k_mem); (case q9z => k_asm); (case q9z2 => k_asm)); intro _ _ _ _; intro q1; (try k_lt q1); revert q1; intro _; (try k_sweep))))
  (k_with "compareOp NotEq ref ref" => (k_here; (with_reducible show wpAny _ _ (compareOp CmpOp.NotEq (Value.ref _) (Value.ref _)) _ _ _); k_dflt (refine' ne_nil ?q9N ?q9ma ?q9mb ?q9hu ?_; (case q9N => k_asm); (case q9ma => k_mem); (case q9mb => k_mem); (case q9hu => exact Nat.le_of_ble_eq_true rfl))))
  (k_with "compareOp NotEq ref ref" => (k_here; (with_reducible show wpAny _ _ (compareOp CmpOp.NotEq (Value.ref _) (Value.ref _)) _ _ _); k_dflt (refine' ne_cons ?q9N ?q9ma ?q9Da ?q9sa ?q9mb ?q9ha ?q9hu ?_; (case q9N => k_asm); (case q9ma => k_mem); (case q9Da => assumption); (case q9sa => (intro p hp; repeat (first | with_reducible exact hp | refine List.mem_cons_of_mem _ ?_))); (case q9mb => k_mem); (case q9ha => assumption); (case q9hu => exact Nat.le_of_ble_eq_true rfl))))
  trivial
theorem reg_set {prog : Program} {w : World} {A : Around} {E : Value → Shared → Prop} {s : Shared} {h₀ : Heap} {L D : Addr} {m : Str → Option Value} {news : Led} {g : Obj → Led} {vs : List Value} {ns : List Int} {n : Nat} {k x : Int} {t u : Tok} {Q : Unit → Shared → Prop} (F : Fr h₀ L s.heap m) (N : News h₀ L s.heap news) (U : UpdF D (listOf vs.toArray n) news g)
    (hi : IntsAre vs ns) (h0 : 0 ≤ k) (h1 : k < ns.length) (hk : k < 1000) (h : ∀ h', Fr h₀ L h' m → News h₀ L h' (g (listOf (vs.set k.toNat (.int x u)).toArray n)) → Q () { s with heap := h' }) :
    wpAny (model prog w) A (setItem (.ref D) (.int k t) (.int x u)) Q E s :=
  ksa_set F N (updF_upd U) hi h0 h1 (by omega) (fun h' F' N' _ _ _ => h h' F' N')
theorem line_35 : True := by
  (k_with "setItem ref int" => (k_here; (with_reducible show wpAny _ _ (setItem (Value.ref _) (Value.int _ _) (Value.int _ _)) _ _ _); k_dflt ((refine' reg_set ?q9F ?q9N ?q9U ?q9i ?q9z0 ?q9z1 ?q9z2 ?_; (case q9F => k_asm); (case q9N => k_asm); (case q9U => k_updF); (case q9i => with_reducible assumption); (case q9z0 => decide); (case q9z1 => decide); (case q9z2 => decide)); intro _ _; intro N'; (try dsimp only at N'); revert N'; intro _; (try k_sweep))))
  (k_with "call ref" => (k_here; (with_reducible show wpAny _ _ (call (Value.ref 298) _) _ _ _); k_dflt (refine' use_put _ _ _ _ _ _ _ _ _ _ _ _ _ _ _ _ _ ?q9h1 ?q9h2 ?q9U ?q9lo ?q9hD ?q9hW ?q9ha ?q9ha2 ?q9hv ?q9hv2 ?q9hl ?q9B ?q9F ?q9X ?q9N ?q9T ?q9hk ?q9hd ?q9hu ?_; walk_at "m_used"; (case q9h1 => k_mem); (case q9h2 => k_mem); (case q9U => k_updF); (case q9lo => k_asm); (case q9hD => k_asm); (case q9hW => k_asm); (case q9ha => first | k_asm | omega); (case q9ha2 => first | k_asm | omega); (case q9hv => first | k_asm | omega | exact Int.fmod_nonneg_of_pos _ (by omega)); (case q9hv2 => first | k_asm | omega | exact Int.lt_trans (Int.fmod_lt_of_pos _ (by omega)) (by omega)); (case q9hl => first | k_asm | omega); k_whole); intro _ _ _ _ _ _ _ _; intro N'; (try dsimp only at N'); revert N'; intro _; walk_at "m_on"))
  trivial
theorem name_range {h : Heap} {r : Addr} {a b c : Int} {t u v : Tok} {P : Prop} (_ : IsRange h r a b c t u v) (k : ∀ x, x = b → P) : P := k b rfl
theorem name_led {h₀ h : Heap} {L row : Addr} {vs : List Value} {n : Nat} {rest : Led} {P : Prop} (_ : News h₀ L h ((row, listOf (List.toArray vs) n) :: rest)) (k : ∀ v m, v = vs → m = n → P) : P := k vs n rfl rfl
theorem off_more {R : Led} {a b c d : Addr} {o1 o2 : Obj} (h : OwnOff R [a, b, c, d]) (h1 : b ≠ a) (h2 : b ≠ c) (h3 : d ≠ a) (h4 : d ≠ c) : OwnOff ((b, o1) :: (d, o2) :: R) [a, c] := by
  intro p hp x hx
  simp only [List.mem_cons, List.not_mem_nil, or_false] at hx
  rcases List.mem_cons.mp hp with e | hp
  · rw [e]; rcases hx with rfl | rfl
    · exact h1
    · exact h2
  rcases List.mem_cons.mp hp with e | hp
  · rw [e]; rcases hx with rfl | rfl
    · exact h3
    · exact h4
  · rcases hx with rfl | rfl
    · exact h p hp _ (.head _)
    · exact h p hp _ (.tail _ (.tail _ (.head _)))
theorem mem_swap {a b c d : Addr × Obj} {R : Led} : ∀ p ∈ a :: c :: b :: d :: R, p ∈ a :: b :: c :: d :: R := by
  intro p hp
  simp only [List.mem_cons] at hp ⊢
  rcases hp with h | h | h | h | h <;> simp [h]
theorem line_36 : True := by
  (k_with "call ref" => (k_here; (with_reducible show wpAny _ _ (call (Value.ref 56) _) _ _ _); k_dflt (refine (show HereStop (wpAny _ _ _ _ _ _) from ?_))))
  (k_with "compareOp Eq ref ref" => (k_here; (with_reducible show wpAny _ _ (compareOp CmpOp.Eq (Value.ref _) (Value.ref _)) _ _ _); k_dflt (refine (show HereStop (wpAny _ _ _ _ _ _) from ?_))))
  trivial
theorem strs_three {k : Nat} {v : Value} {i : Nat} {a b c : Str} {ta tb tc : Tok} (h : (List.take k [Value.str a ta, .str b tb, .str c tc])[i]? = some v) : i < 3 ∧ ∃ x t, v = .str x t ∧ (x = a ∨ x = b ∨ x = c) := by
  rw [List.getElem?_take] at h
  split at h
  · match i, h with
    | 0, h => simp at h; exact ⟨by omega, _, _, h.symm, .inl rfl⟩
    | 1, h => simp at h; exact ⟨by omega, _, _, h.symm, .inr (.inl rfl)⟩
    | 2, h => simp at h; exact ⟨by omega, _, _, h.symm, .inr (.inr rfl)⟩
  · cases h
theorem keep_off {row md mach memd mem wd cpud cpu regs rl ll DL : Nat} {o1 o2 o3 o4 o5 o6 o7 o8 o9 : Obj} (z0 : row < md) (z1 : md < mach) (z2 : mach < memd) (z3 : memd < mem) (z4 : mem < wd) (z5 : wd < cpud) (z6 : cpud < cpu) (z7 : cpu < regs) (z8 : regs < rl) (z9 : rl < ll) (za : ll < DL) :
    OwnOff ([(regs, o1), (wd, o2), (cpud, o3), (mach, o4), (md, o5), (cpu, o6), (mem, o7), (memd, o8), (DL, o9)] : Led) [row, rl, ll] := by
  intro p hp b hb
  simp only [List.mem_cons, List.not_mem_nil, or_false] at hp hb
  rcases hp with rfl | rfl | rfl | rfl | rfl | rfl | rfl | rfl | rfl <;> rcases hb with rfl | rfl | rfl <;> (refine neN ?_; dsimp only; omega)
theorem keep_off2 {row md mach memd mem wd cpud cpu regs rl ll DL : Nat} {o4 o5 o6 o7 o8 o9 oa : Obj} {objs : Led} (z0 : row < md) (z1 : md < mach) (z2 : mach < memd) (z3 : memd < mem) (z4 : mem < wd) (z5 : wd < cpud) (z6 : cpud < cpu) (z7 : cpu < regs) (z8 : regs < rl) (z9 : rl < ll) (za : ll < DL) (hgt : ∀ p ∈ objs, @LT.lt Nat _ DL p.1) :
    OwnOff (objs ++ ([(mach, o4), (md, o5), (cpu, o6), (mem, o7), (memd, o8), (rl, o9), (ll, oa)] : Led)) [row, regs, wd, cpud] := by
  intro p hp b hb
  simp only [List.mem_append, List.mem_cons, List.not_mem_nil, or_false] at hp hb
  rcases hp with hp | rfl | rfl | rfl | rfl | rfl | rfl | rfl
  · have := hgt p hp
    rcases hb with rfl | rfl | rfl | rfl <;> (refine neN ?_; omega)
  all_goals rcases hb with rfl | rfl | rfl | rfl <;> (refine neN ?_; dsimp only; omega)
theorem law_walk : hd.1 := by
  delta hd
  dsimp only
  k_go0
  all_goals try k_fold
  k_steps
  rename_i row _ _ _ _ _ _ _ _ _ _ _ mach md mem memd wd cpu cpud regs rl ll TR t t' t'' y y' tp tz rn o kvs W lo hD hl hW z0 z1 z2 z3 z4 z5 z6 z7 z8 z9 _ _ _ _ _ _ _ _ x1 _ vr nr _ _ hrr _ _ m3 m4 _ _ _ _ DL _ F9 N9 lD
  rename World => w
  obtain ⟨wvs, hwvs⟩ : ∃ wvs, wvs = List.take (x1.fmod 4).toNat [Value.str (Str.ofString "M") tk, Value.str (Str.ofString "Out") (tk + 1), Value.str (Str.ofString "N") (tk + 1 + 1)] := ⟨_, rfl⟩
  rw [← hwvs] at N9
  obtain ⟨keep, hkeep⟩ : ∃ keep : Led, keep = [(regs, listOf (List.replicate 16 (Value.int 0 tz)).toArray 0), (wd, o), (cpud, cpuDict w t' y' regs rl 0 tp), (mach, instObj 407 md), (md, machDict w t y mem cpu ll), (cpu, instObj 259 cpud), (mem, instObj 315 memd),
    (memd, dictOf [ent w "size" (t'' 0) (.int 720 (t'' 1)), ent w "words" (t'' 2) (.ref wd)] 2), (DL, listOf wvs.toArray 0)] := ⟨_, rfl⟩
  have N2 := News.sub (l' := (row, listOf vr.toArray nr) :: (rl, listOf [Value.ref TR].toArray rn) :: (ll, listOf #[] 0) :: keep) N9 (by rw [hkeep]; walk_at "m_sub2")
  clear N9
  have d1 : @LT.lt Nat _ mach rl := by omega
  have d2 : @LT.lt Nat _ md rl := by omega
  have d3 : @LT.lt Nat _ cpu rl := by omega
  have d4 : @LT.lt Nat _ cpud rl := by omega
  have n1 : mach ≠ rl := Nat.ne_of_lt d1
  have n2 : md ≠ rl := Nat.ne_of_lt d2
  have n3 : cpu ≠ rl := Nat.ne_of_lt d3
  have n4 : cpud ≠ rl := Nat.ne_of_lt d4
  have d5 : @LT.lt Nat _ row rl := by omega
  have d6 : @LT.lt Nat _ rl ll := by omega
  have d7 : @LT.lt Nat _ ll DL := by omega
  have hoffK : OwnOff keep [row, rl, ll] := by
    rw [hkeep]
    exact keep_off z0 z1 z2 z3 z4 z5 z6 z7 z8 z9 d7
  have kDL : (DL, listOf wvs.toArray 0) ∈ keep := by rw [hkeep]; simp
  have k1 : (mach, instObj 407 md) ∈ keep := by rw [hkeep]; simp
  have k2 : (md, machDict w t y mem cpu ll) ∈ keep := by rw [hkeep]; simp
  have k3 : (cpu, instObj 259 cpud) ∈ keep := by rw [hkeep]; simp
  have k4 : (cpud, cpuDict w t' y' regs rl 0 tp) ∈ keep := by rw [hkeep]; simp
  clear lD
  refine' my_list (σ := List Value × Nat × List Value × Nat × List Value × Nat × Led × List MD) (fun i c nx => nx = (row, listOf c.1.toArray c.2.1) :: (rl, listOf c.2.2.1.toArray c.2.2.2.1) :: (ll, listOf c.2.2.2.2.1.toArray c.2.2.2.2.2.1) :: (c.2.2.2.2.2.2.1 ++ keep) ∧ RowOk c.1 ∧ c.2.2.1.length ≤ 1 + 12 * i ∧ 1 ≤ c.2.2.1.length ∧ ModsAre w c.2.2.2.2.2.2.1 c.2.2.2.2.1 c.2.2.2.2.2.2.2 ∧ NamesOk c.2.2.2.2.2.2.2 ∧ c.2.2.2.2.1.length ≤ i ∧ ∀ p ∈ c.2.2.2.2.2.2.1, @LT.lt Nat _ DL p.1)
    (fun _ => [(Str.ofString "row", .ref row), (Str.ofString "machine", .ref mach)]) (vr, nr, [.ref TR], rn, [], 0, [], []) rfl (.tail _ (.tail _ (.tail _ kDL))) F9 N2 ⟨rfl, hrr, by simp, by simp, .nil, (fun _ hm => nomatch hm), by simp, fun _ hp => nomatch hp⟩ ?hps (.inl fun _ _ => rfl) ?turn ?done
  case hps => (try dsimp only); kst_all
  case turn =>
    rintro i v ⟨vr, nr, rw', rwn, lv, ln, objs, ms⟩ nx u h tk own hv ⟨rfl, hrr, hrl, hrl1, hmods, hnm, hlv, hgt⟩ hl hoff F₁ N₁
    dsimp only at hrr hrl hrl1 hmods hnm hlv hgt hl hoff N₁
    rw [hwvs] at hv
    obtain ⟨hi, nm, tn, rfl, hnm1⟩ := strs_three hv
    dsimp only [kstB] at F₁
    obtain ⟨R, hR⟩ : ∃ R : Led, R = (objs ++ keep) ++ own := ⟨_, rfl⟩
    have N₂ := N₁
    rw [List.cons_append, List.cons_append, List.cons_append, ← hR] at N₂
    have hs1 : ∀ p ∈ objs ++ keep, p ∈ R := by rw [hR]; exact fun p hp => List.mem_append.mpr (.inl hp)
    have hs2 : ∀ p ∈ own, p ∈ R := by rw [hR]; exact fun p hp => List.mem_append.mpr (.inr hp)
    have hs3 : ∀ p ∈ keep, p ∈ R := fun p hp => hs1 p (List.mem_append.mpr (.inr hp))
    have hoR : OwnOff R [row, rl, ll] := by
      rw [hR]
      intro p hp b hb
      rcases List.mem_append.mp hp with hp | hp
      · rcases List.mem_append.mp hp with hp | hp
        · have := hgt p hp
          simp only [List.mem_cons, List.not_mem_nil, or_false] at hb
          rcases hb with rfl | rfl | rfl <;> (refine neN ?_; omega)
        · exact hoffK p hp b hb
      · refine hoff p hp b ?_
        simp only [List.mem_cons, List.not_mem_nil, or_false] at hb
        simp only [List.map_cons, List.mem_cons]
        rcases hb with rfl | rfl | rfl <;> simp
    clear N₁ hR
    k_steps
    unfold HereStop
    refine' Call.use ?q9B ?q9F ?q9X ?q9N ?q9T ?q9hk (law_object_spec _ _ _ _ _ _ _ _ ?q9U ?q9hr) ?q9hd ?q9hu ?_
    walk_at "m_used"
    case q9U => k_updF
    case q9hr => assumption
    intro r news' h' tk' hp F' N'
    obtain ⟨ob, objs1, d, vr1, nr1, rfl, e2, hrr1, hob, hdok, hgt1⟩ := hp
    subst e2
    obtain ⟨R2, hR2⟩ : ∃ R2 : Led, R2 = objs1 ++ R := ⟨_, rfl⟩
    have hs4 : ∀ p ∈ R, p ∈ R2 := by rw [hR2]; exact fun p hp => List.mem_append.mpr (.inr hp)
    have hs5 : ∀ p ∈ objs1, p ∈ R2 := by rw [hR2]; exact fun p hp => List.mem_append.mpr (.inl hp)
    have N3 := News.sub (l' := (row, listOf vr1.toArray nr1) :: (rl, listOf rw'.toArray rwn) :: (ll, listOf lv.toArray ln) :: R2) N' (by rw [hR2]; exact mem_rot3)
    have hoR2 : OwnOff R2 [row, rl, ll] := by
      rw [hR2]
      intro p hp b hb
      rcases List.mem_append.mp hp with hp | hp
      · simp only [List.mem_cons, List.not_mem_nil, or_false] at hb
        rcases hb with rfl | rfl | rfl
        · exact Nat.ne_of_gt (hgt1 p hp _ (.head _))
        · exact Nat.ne_of_gt (hgt1 p hp _ (.tail _ (.head _)))
        · exact Nat.ne_of_gt (hgt1 p hp _ (.tail _ (.tail _ (.head _))))
      · exact hoR p hp b hb
    have hob2 := hob
    obtain ⟨dx, rl2, el, cd, t2, y2, tb, rvs, evs, rn2, en, o2, kvs2, g3⟩ := hob
    have g4 := hs5 _ g3.inst
    have g5 := hs5 _ g3.dict
    have g6 := hs5 _ g3.rows
    have q1 := hs4 _ (hs3 _ k1)
    have q2 := hs4 _ (hs3 _ k2)
    have q3 := hs4 _ (hs3 _ k3)
    have q4 := hs4 _ (hs3 _ k4)
    have n5 : rl2 ≠ rl := Nat.ne_of_gt (hgt1 _ g3.rows _ (.tail _ (.head _)))
    have hz9 : rw'.length + rvs.length ≤ 1000 := by have := g3.many; have := hdok.rows; omega
    have hsz : lv.length ≤ sizeLine := size3 (k := 200) (by omega) (by omega)
    clear N' N₂ hR2
    walk_at "m_on"
    k_steps
    rename_i n8 _ _ _ _ _ _ l9 ld9 t9 y9 b1 b2 _ F8 N8
    simp only [List.push_toArray] at N8
    have kDL2 := hs4 _ (hs3 _ kDL)
    have hlow : ∀ p ∈ R2, p.1 < ld9 := fun p hp => tb_ltOf b1.2.2.2 p hp
    refine InvEndG.intro (nx := (row, listOf vr1.toArray nr1) :: (rl, listOf (rw' ++ rvs).toArray n8) :: (ll, listOf (lv ++ [Value.ref l9]).toArray (ln + 1)) :: (((l9, instObj 73 ld9) :: (ld9, loadDict w t9 y9 nm (rw'.length : Int) ob) :: (objs1 ++ objs)) ++ keep)) F8 N8
      ⟨?_, (vr1, nr1, rw' ++ rvs, n8, lv ++ [Value.ref l9], ln + 1, (l9, instObj 73 ld9) :: (ld9, loadDict w t9 y9 nm (rw'.length : Int) ob) :: (objs1 ++ objs), ms ++ [⟨nm, (rw'.length : Int), d⟩]), ⟨rfl, hrr1, ?_, ?_, ?_, ?_, ?_, ?_⟩, by kst_all⟩ ?_ ?_ ?_
    · intro p hp
      rw [List.mem_singleton.mp hp]
      exact .tail _ (.tail _ (.tail _ (List.mem_append.mpr (.inr kDL))))
    · have := g3.many
      have := hdok.rows
      simp only [List.length_append]; omega
    · simp only [List.length_append]; omega
    · refine ModsAre.snoc (m := ⟨nm, (rw'.length : Int), d⟩) ⟨ld9, ob, t9, y9, .head _, .tail _ (.head _), hob2.mono fun p hp => .tail _ (.tail _ (List.mem_append.mpr (.inl hp))), hdok⟩ (hmods.mono fun p hp => .tail _ (.tail _ (List.mem_append.mpr (.inr hp))))
    · intro m hm
      rcases List.mem_append.mp hm with hm | hm
      · exact hnm m hm
      · rw [List.mem_singleton.mp hm]; exact hnm1
    · simp only [List.length_append, List.length_singleton]; omega
    · intro p hp
      have hd := hlow _ kDL2
      rcases List.mem_cons.mp hp with rfl | hp
      · exact Nat.lt_trans hd b2
      rcases List.mem_cons.mp hp with rfl | hp
      · exact hd
      rcases List.mem_append.mp hp with hp | hp
      · exact hgt1 p hp _ (.tail _ (.tail _ (.tail _ (hs3 _ kDL))))
      · exact hgt p hp
    · intro p hp b hb
      have hd := hlow _ (hs4 _ (hs2 p hp))
      simp only [List.map_cons, List.cons_append, List.mem_cons] at hb
      rcases hb with rfl | rfl | rfl | rfl | rfl | hb
      · exact hoff p hp _ (by simp)
      · exact hoff p hp _ (by simp)
      · exact hoff p hp _ (by simp)
      · exact Nat.ne_of_lt (Nat.lt_trans hd b2)
      · exact Nat.ne_of_lt hd
      · obtain ⟨q, hq, rfl⟩ := List.mem_map.mp hb
        rcases List.mem_append.mp hq with hq | hq
        · rcases List.mem_append.mp hq with hq | hq
          · exact Nat.ne_of_lt (hgt1 q hq p (.tail _ (.tail _ (.tail _ (hs2 p hp)))))
          · exact hoff p hp _ (List.mem_map.mpr ⟨q, .tail _ (.tail _ (.tail _ (List.mem_append.mpr (.inl hq)))), rfl⟩)
        · exact hoff p hp _ (List.mem_map.mpr ⟨q, .tail _ (.tail _ (.tail _ (List.mem_append.mpr (.inr hq)))), rfl⟩)
    · intro p hp
      rcases List.mem_cons.mp hp with rfl | hp
      · exact .tail _ (.tail _ (.head _))
      rcases List.mem_cons.mp hp with rfl | hp
      · exact .tail _ (.tail _ (.tail _ (.head _)))
      rcases List.mem_cons.mp hp with rfl | hp
      · exact .tail _ (.tail _ (.tail _ (.tail _ (.head _))))
      rcases List.mem_append.mp hp with hp | hp
      · rcases List.mem_cons.mp hp with rfl | hp
        · exact .head _
        rcases List.mem_cons.mp hp with rfl | hp
        · exact .tail _ (.head _)
        rcases List.mem_append.mp hp with hp | hp
        · exact .tail _ (.tail _ (.tail _ (.tail _ (.tail _ (hs5 p hp)))))
        · exact .tail _ (.tail _ (.tail _ (.tail _ (.tail _ (hs4 p (hs1 p (List.mem_append.mpr (.inl hp))))))))
      · exact .tail _ (.tail _ (.tail _ (.tail _ (.tail _ (hs4 p (hs3 p hp))))))
    · exact fun p hp => .tail _ (.tail _ (.tail _ (.tail _ (.tail _ (hs4 p (hs2 p hp))))))
  case done =>
    rintro ⟨vr, nr, rw', rwn, lv, ln, objs, ms⟩ nx u h tk ⟨rfl, hrr, hrl, hrl1, hmods, hnm, hlv, hgt⟩ hl F₁ N₁
    dsimp only at hrr hrl hrl1 hmods hnm hlv hgt hl N₁
    dsimp only [kstB] at F₁
    have hw3 : wvs.length ≤ 3 := by rw [hwvs]; simp; omega
    obtain ⟨K, hK⟩ : ∃ K, rw'.length = K := ⟨_, rfl⟩
    have hK1 : (1 : Int) ≤ (K : Int) := by omega
    have hK2 : (K : Int) ≤ 100 := by omega
    obtain ⟨R, hR⟩ : ∃ R : Led, R = objs ++ [(mach, instObj 407 md), (md, machDict w t y mem cpu ll), (cpu, instObj 259 cpud), (mem, instObj 315 memd), (memd, dictOf [ent w "size" (t'' 0) (.int 720 (t'' 1)), ent w "words" (t'' 2) (.ref wd)] 2), (rl, listOf rw'.toArray rwn), (ll, listOf lv.toArray ln)] := ⟨_, rfl⟩
    have N3 := News.sub (l' := (row, listOf vr.toArray nr) :: (regs, listOf (List.replicate 16 (Value.int 0 tz)).toArray 0) :: (wd, o) :: (cpud, cpuDict w t' y' regs rl 0 tp) :: R) N₁ (by
      rw [hR, hkeep]
      intro p hp
      rcases List.mem_cons.mp hp with e | hp
      · rw [e]; exact .head _
      rcases List.mem_cons.mp hp with e | hp
      · rw [e]; exact .tail _ (.tail _ (.tail _ (List.mem_append.mpr (.inr (.head _)))))
      rcases List.mem_cons.mp hp with e | hp
      · rw [e]; exact .tail _ (.tail _ (.tail _ (List.mem_append.mpr (.inr (.tail _ (.head _))))))
      rcases List.mem_cons.mp hp with e | hp
      · rw [e]; exact .tail _ (.tail _ (.tail _ (List.mem_append.mpr (.inr (.tail _ (.tail _ (.head _)))))))
      rcases List.mem_append.mp hp with hp | hp
      · exact .tail _ (.tail _ (.tail _ (List.mem_append.mpr (.inl hp))))
      rcases List.mem_cons.mp hp with e | hp
      · rw [e]; exact .tail _ (.tail _ (.tail _ (List.mem_append.mpr (.inr (.tail _ (.tail _ (.tail _ (.head _))))))))
      rcases List.mem_cons.mp hp with e | hp
      · rw [e]; exact .tail _ (.tail _ (.tail _ (List.mem_append.mpr (.inr (.tail _ (.tail _ (.tail _ (.tail _ (.head _)))))))))
      rcases List.mem_cons.mp hp with e | hp
      · rw [e]; exact .tail _ (.tail _ (.tail _ (List.mem_append.mpr (.inr (.tail _ (.tail _ (.tail _ (.tail _ (.tail _ (.head _))))))))))
      rcases List.mem_cons.mp hp with e | hp
      · rw [e]; exact .tail _ (.tail _ (.tail _ (List.mem_append.mpr (.inr (.tail _ (.tail _ (.tail _ (.tail _ (.tail _ (.tail _ (.head _)))))))))))
      rcases List.mem_cons.mp hp with e | hp
      · rw [e]; exact .tail _ (.tail _ (.tail _ (List.mem_append.mpr (.inr (.tail _ (.tail _ (.tail _ (.tail _ (.tail _ (.tail _ (.tail _ (.head _))))))))))))
      rcases List.mem_cons.mp hp with e | hp
      · rw [e]; exact .tail _ (.head _)
      rcases List.mem_cons.mp hp with e | hp
      · rw [e]; exact .tail _ (.tail _ (.head _))
      · exact nomatch hp)
    have hoR : OwnOff R [row, regs, wd, cpud] := by
      rw [hR]
      exact keep_off2 z0 z1 z2 z3 z4 z5 z6 z7 z8 z9 d7 hgt
    have q1 : (mach, instObj 407 md) ∈ R := by rw [hR]; simp
    have q2 : (md, machDict w t y mem cpu ll) ∈ R := by rw [hR]; simp
    have q3 : (cpu, instObj 259 cpud) ∈ R := by rw [hR]; simp
    have q4 : (rl, listOf rw'.toArray rwn) ∈ R := by rw [hR]; simp
    have q5 : (ll, listOf lv.toArray ln) ∈ R := by rw [hR]; simp
    have q6 : (mem, instObj 315 memd) ∈ R := by rw [hR]; simp
    have q7 : (memd, dictOf [ent w "size" (t'' 0) (.int 720 (t'' 1)), ent w "words" (t'' 2) (.ref wd)] 2) ∈ R := by rw [hR]; simp
    have hms : ModsAre w R lv ms := hmods.mono (by rw [hR]; exact fun p hp => List.mem_append.mpr (.inl hp))
    clear N₁
    k_steps
    rename_i tkp xp _ _ _ _ _ _ _ _ _ _ _ _ _ _ _ _ _ _ _ tkl _ xl _ vr2 nr2 _ _ hrr2 _ _ _ _ _ _ _ _ _ _ F7 N7
    have hp0 := Int.fmod_nonneg_of_pos xp (b := (K : Int)) (by omega)
    have hp1 := Int.fmod_lt_of_pos xp (b := (K : Int)) (by omega)
    have hl0 := Int.fmod_nonneg_of_pos xl (b := (K : Int) + 1) (by omega)
    have hl1 := Int.fmod_lt_of_pos xl (b := (K : Int) + 1) (by omega)
    obtain ⟨pc, hpc⟩ : ∃ pc, pc = 1 + xp.fmod (K : Int) := ⟨_, rfl⟩
    obtain ⟨link, hlink⟩ : ∃ link, link = xl.fmod ((K : Int) + 1) := ⟨_, rfl⟩
    rw [← hpc, ← hlink] at N7
    rw [← hpc]
    rw [← hlink] at hl0 hl1
    clear hp0 hp1
    unfold HereStop
    refine' Call.use ?q9B ?q9F ?q9X ?q9N ?q9T ?q9hk (line2_spec _ _ _ _ _ _ _ _ _ _ _ _ _ _ ?q9h1 ?q9h2 ?q9h3 ?q9h4) ?q9hd ?q9hu ?_
    walk_at "m_used"
    case q9h1 => k_mem
    case q9h2 => k_mem
    case q9h3 => k_mem
    case q9h4 => walk_at "m_mods"
    intro r news' h' tk' hp F' N'
    obtain ⟨D, dv, tp, rfl, rfl, l1, l2, hDat, hcase⟩ := hp
    rename Shared => s1
    rename Top _ _ _ _ _ _ => TT
    obtain ⟨R5, hR5⟩ : ∃ R5 : Led, R5 = (D, listOf (List.toArray dv) 0) :: (tp ++ R) := ⟨_, rfl⟩
    obtain ⟨gvs, hgvs⟩ : ∃ gvs : List Value, gvs = [.int 0 tz, .int 0 tz, .int 0 tz, .int 0 tz, .int 0 tz, .int 0 tz, .int 0 tz, .int 0 tz, .int 0 tz, .int 0 tz, .int 0 tz, .int 0 tz, .int 0 tz, .int 0 tz, .int 0 tz, .int link (tkl + 1 + 1)] := ⟨_, rfl⟩
    have N5 := News.sub (l' := (row, listOf (List.toArray vr2) nr2) :: (regs, listOf (List.toArray gvs) 0) :: (wd, o) :: (cpud, cpuDict w t' y' regs rl pc (tkp + 1)) :: R5) N' (by rw [hR5, hgvs]; exact mem_due)
    have hgi : IntsAre gvs [0, 0, 0, 0, 0, 0, 0, 0, 0, 0, 0, 0, 0, 0, 0, link] := by
      rw [hgvs]
      iterate 16 (refine .cons _ _ ?_)
      exact .nil
    have g15 : gvs[15]? = some (.int link (tkl + 1 + 1)) := by rw [hgvs]; rfl
    have g16 : gvs.length = 16 := by rw [hgvs]; rfl
    clear hgvs
    have hsub5 : ∀ p ∈ R, p ∈ R5 := by rw [hR5]; exact fun p hp => .tail _ (List.mem_append.mpr (.inr hp))
    have htp5 : ∀ p ∈ tp, p ∈ R5 := by rw [hR5]; exact fun p hp => .tail _ (List.mem_append.mpr (.inl hp))
    have hD5 : (D, listOf (List.toArray dv) 0) ∈ R5 := by rw [hR5]; exact .head _
    have hoR5 : OwnOff R5 [row, regs, wd, cpud] := by
      rw [hR5]
      intro p hp b hb
      simp only [List.mem_cons, List.not_mem_nil, or_false] at hb
      rcases List.mem_cons.mp hp with e | hp
      · rw [e]
        rcases hb with rfl | rfl | rfl | rfl
        · exact Nat.ne_of_gt (l1 _ (.head _))
        · exact Nat.ne_of_gt (l1 _ (.tail _ (.head _)))
        · exact Nat.ne_of_gt (l1 _ (.tail _ (.tail _ (.head _))))
        · exact Nat.ne_of_gt (l1 _ (.tail _ (.tail _ (.tail _ (.head _)))))
      rcases List.mem_append.mp hp with hp | hp
      · have l3 := (l2 p hp).2
        rcases hb with rfl | rfl | rfl | rfl
        · exact Nat.ne_of_gt (l3 _ (.head _))
        · exact Nat.ne_of_gt (l3 _ (.tail _ (.head _)))
        · exact Nat.ne_of_gt (l3 _ (.tail _ (.tail _ (.head _))))
        · exact Nat.ne_of_gt (l3 _ (.tail _ (.tail _ (.tail _ (.head _)))))
      · exact hoR p hp b (by simp only [List.mem_cons, List.not_mem_nil, or_false]; exact hb)
    have hDat5 := hDat.mono htp5
    have hms5 := hms.mono hsub5
    have r1 := hsub5 _ q1
    have r2 := hsub5 _ q2
    have r3 := hsub5 _ q3
    have r4 := hsub5 _ q4
    have r5 := hsub5 _ q5
    have r6 := hsub5 _ q6
    have r7 := hsub5 _ q7
    have hok := tell_ok hnm [pc - 1]
    clear N' N7 l1 l2
    walk_at "m_on"
    k_steps
    unfold HereStop
    refine cut_here (fun fl s' => HereStop (fl = .next ∧ ∃ h' tk' m' D dv R6 tK, s' = { s1 with heap := h', toks := tk' } ∧ Fr TT.heap s1.heap.objs.size h' m' ∧ (∀ p ∈ [(Str.ofString "row", Value.ref row), (Str.ofString "machine", .ref mach), (Str.ofString "whole_rows", .int (K : Int) tK), (Str.ofString "due", .ref D)], m' p.1 = some p.2) ∧
      News TT.heap s1.heap.objs.size h' ((row, listOf (List.toArray vr2) nr2) :: (regs, listOf (List.toArray gvs) 0) :: (wd, o) :: (cpud, cpuDict w t' y' regs rl pc (tkp + 1)) :: R6) ∧ (∀ p ∈ R, p ∈ R6) ∧ OwnOff R6 [row, regs, wd, cpud] ∧ (D, listOf (List.toArray dv) 0) ∈ R6 ∧
      DatAll R6 dv (tellRows ms (lawHead ms pc link)) ∧ dv.length ≤ 2)) ?cutA ?cutB
    case cutA =>
      rcases hcase with ⟨f1, rfl, htp⟩ | ⟨m, T, t1, t2, t3, f1, rfl, htp⟩
      · refine wpAny_If ?_
        k_steps
        unfold HereStop
        refine ⟨rfl, _, _, _, D, [], R5, _, rfl, (by assumption), (by kst_all), News.sub (by assumption) (fun p hp => .tail _ hp), hsub5, hoR5, hD5, (by rw [head_none f1]; exact hDat5), by simp⟩
      · have hT : (T, ({ cls := .type "tuple", data := .seq (List.toArray [.str m.name t1, .int (pc - 1 - m.base) t2, .str (nearest m.d (pc - 1 - m.base)) t3]) 0 } : Obj)) ∈ R5 := htp5 _ (by rw [htp]; exact .head _)
        refine wpAny_If ?_
        k_steps
        · rename_i la _ F8 N8 lA hO hl9
          show wpAny _ _ _ _ _ _
          refine' Call.use ?q9B ?q9F ?q9X ?q9N ?q9T ?q9hk (line2_spec _ _ _ _ _ _ _ _ _ _ _ _ _ _ ?q9h1 ?q9h2 ?q9h3 ?q9h4) ?q9hd ?q9hu ?_
          walk_at "m_used"
          case q9h1 => k_mem
          case q9h2 => k_mem
          case q9h3 => k_mem
          case q9h4 => walk_at "m_mods"
          intro r news' h' tk' hp F' N'
          obtain ⟨D2, dv2, tp2, rfl, rfl, l3, l4, hDat2, hc2⟩ := hp
          have hdl : dv2.length ≤ 1 := by rcases hc2 with ⟨_, rfl, _⟩ | ⟨_, _, _, _, _, _, rfl, _⟩ <;> simp
          have hdl2 : dv2.length ≤ 1000 := by omega
          have hz1 : [Value.ref T].length ≤ 1000 := by simp
          obtain ⟨R7, hR7⟩ : ∃ R7 : Led, R7 = (D2, listOf (List.toArray dv2) 0) :: (tp2 ++ R5) := ⟨_, rfl⟩
          have N7 := News.sub (l' := (row, listOf (List.toArray vr2) nr2) :: (regs, listOf (List.toArray gvs) 0) :: (wd, o) :: (cpud, cpuDict w t' y' regs rl pc (tkp + 1)) :: R7) N' (by rw [hR7]; exact mem_due1)
          have hsub7 : ∀ p ∈ R5, p ∈ R7 := by rw [hR7]; exact fun p hp => .tail _ (List.mem_append.mpr (.inr hp))
          have htp7 : ∀ p ∈ tp2, p ∈ R7 := by rw [hR7]; exact fun p hp => .tail _ (List.mem_append.mpr (.inl hp))
          have hD7 : (D2, listOf (List.toArray dv2) 0) ∈ R7 := by rw [hR7]; exact .head _
          have hD57 := hsub7 _ hD5
          have hoR7 : OwnOff R7 [row, regs, wd, cpud] := by
            rw [hR7]
            intro p hp b hb
            rcases List.mem_append.mp (show p ∈ [(D2, listOf (List.toArray dv2) 0)] ++ (tp2 ++ R5) from hp) with hp | hp
            · rw [List.mem_singleton.mp hp]
              simp only [List.mem_cons, List.not_mem_nil, or_false] at hb
              rcases hb with rfl | rfl | rfl | rfl
              · exact Nat.ne_of_gt (l3 _ (.tail _ (.head _)))
              · exact Nat.ne_of_gt (l3 _ (.tail _ (.tail _ (.head _))))
              · exact Nat.ne_of_gt (l3 _ (.tail _ (.tail _ (.tail _ (.head _)))))
              · exact Nat.ne_of_gt (l3 _ (.tail _ (.tail _ (.tail _ (.tail _ (.head _))))))
            rcases List.mem_append.mp hp with hp | hp
            · have l5 := (l4 p hp).2
              simp only [List.mem_cons, List.not_mem_nil, or_false] at hb
              rcases hb with rfl | rfl | rfl | rfl
              · exact Nat.ne_of_gt (l5 _ (.tail _ (.head _)))
              · exact Nat.ne_of_gt (l5 _ (.tail _ (.tail _ (.head _))))
              · exact Nat.ne_of_gt (l5 _ (.tail _ (.tail _ (.tail _ (.head _)))))
              · exact Nat.ne_of_gt (l5 _ (.tail _ (.tail _ (.tail _ (.tail _ (.head _))))))
            · exact hoR5 p hp b hb
          clear N' N8 l3 l4
          walk_at "m_on"
          k_steps
          rename_i D3 _ lD3 _ F8 N8
          unfold HereStop
          refine ⟨rfl, _, _, _, D3, [Value.ref T] ++ dv2, (D3, listOf (List.toArray ([Value.ref T] ++ dv2)) 0) :: R7, _, rfl, F8, (by kst_all), News.sub N8 mem_e, fun p hp => .tail _ (hsub7 p (hsub5 p hp)), ?_, .head _, ?_, (by simp only [List.length_append, List.length_cons, List.length_nil]; omega)⟩
          · intro p hp b hb
            rcases List.mem_cons.mp hp with e | hp
            · rw [e]
              simp only [List.mem_cons, List.not_mem_nil, or_false] at hb
              rcases hb with rfl | rfl | rfl | rfl
              · exact Nat.ne_of_gt lD3.1
              · exact Nat.ne_of_gt lD3.2.1
              · exact Nat.ne_of_gt lD3.2.2.1
              · exact Nat.ne_of_gt lD3.2.2.2.1
            · exact hoR7 p hp b hb
          · rw [head_out f1 hO hl9, tell_append]
            exact (hDat5.mono fun p hp => .tail _ (hsub7 p hp)).append (hDat2.mono fun p hp => .tail _ (htp7 p hp))
        · rename_i hO hl9
          unfold HereStop
          refine ⟨rfl, _, _, _, D, [Value.ref T], R5, _, rfl, (by assumption), (by kst_all), News.sub (by assumption) (fun p hp => .tail _ hp), hsub5, hoR5, hD5, (by rw [head_zero f1 hl9]; exact hDat5), by simp⟩
        · rename_i hO
          unfold HereStop
          refine ⟨rfl, _, _, _, D, [Value.ref T], R5, _, rfl, (by assumption), (by kst_all), News.sub (by assumption) (fun p hp => .tail _ hp), hsub5, hoR5, hD5, (by rw [head_not f1 hO]; exact hDat5), by simp⟩
    case cutB =>
      intro fl s' hP
      unfold HereStop at hP
      obtain ⟨rfl, h', tk', m', D, dv, R6, tK, rfl, F6, hm6, N6, hsub6, hoR6, hD6, hDat6, hdv6⟩ := hP
      rw [← kstB_self hm6] at F6
      dsimp only [kstB] at F6
      clear hcase hDat hR5 hsub5 htp5 hD5 hoR5 hDat5 hms5 r1 r2 r3 r4 r5 r6 r7
      have r1 := hsub6 _ q1
      have r2 := hsub6 _ q2
      have r3 := hsub6 _ q3
      have r5 := hsub6 _ q5
      have r6 := hsub6 _ q6
      have r7 := hsub6 _ q7
      k_steps
      rename_i xm _ _ _ _ _ _ _ _ _ _ _ _ _ _ _ _ _
      unfold HereStop
      refine cut_int (if 0 < xm.fmod 7 then 208 + 8 else 0) ?ifA ?ifB
      case ifA =>
        with_reducible refine IfExp_ ?_
        k_steps
        · unfold HereStop; exact ⟨_, _, by rw [if_pos (by omega)], rfl⟩
        · unfold HereStop; exact ⟨_, _, by rw [if_neg (by omega)], rfl⟩
      case ifB =>
        intro tfp ufp
        k_steps
        rename IsRange _ _ _ _ _ _ _ _ => RR
        rename Fr _ _ _ _ => F9
        rename News _ _ _ _ => N9
        rename RowOk _ => hrr9
        refine name_led N9 (fun vr9 nr9 e1 e2 => ?_)
        subst e1 e2
        refine name_range RR (fun X hX => ?_)
        rw [← hX] at RR F9
        obtain ⟨mn, hmn⟩ : ∃ mn : Nat, X = (mn : Int) := ⟨X.toNat, by omega⟩
        subst hmn
        have hm7 : mn < 7 := by omega
        obtain ⟨fpv, tf, hfp, N8⟩ : ∃ (fpv : Int) (tf : Tok), fpv = (if 0 < mn then 216 else 0) ∧ News TT.heap s1.heap.objs.size _ ((row, listOf (List.toArray vr9) nr9) :: (regs, listOf (List.toArray (gvs.set 11 (.int fpv tf))) 0) :: (wd, o) :: (cpud, cpuDict w t' y' regs rl pc (tkp + 1)) :: R6) := ⟨_, _, (by split <;> split <;> omega), N9⟩
        have g15b : (gvs.set 11 (.int fpv tf))[15]? = some (.int link (tkl + 1 + 1)) := by rw [List.getElem?_set_ne (by decide)]; exact g15
        have g11b : (gvs.set 11 (.int fpv tf))[11]? = some (.int fpv tf) := List.getElem?_set_self (by omega)
        obtain ⟨R8, hR8⟩ : ∃ R8 : Led, R8 = (regs, listOf (List.toArray (gvs.set 11 (.int fpv tf))) 0) :: (cpud, cpuDict w t' y' regs rl pc (tkp + 1)) :: R6 := ⟨_, rfl⟩
        have N7 := News.sub (l' := (row, listOf (List.toArray vr9) nr9) :: (wd, o) :: R8) N8 (by rw [hR8]; exact mem_swap)
        have y1 : @LT.lt Nat _ row regs := by omega
        have y2 : @LT.lt Nat _ wd regs := by omega
        have y3 : @LT.lt Nat _ row cpud := by omega
        have hoR8 : OwnOff R8 [row, wd] := by
          rw [hR8]
          exact off_more hoR6 (Nat.ne_of_gt y1) (Nat.ne_of_gt y2) (Nat.ne_of_gt y3) (Nat.ne_of_gt z5)
        have hsub8 : ∀ p ∈ R6, p ∈ R8 := by rw [hR8]; exact fun p hp => .tail _ (.tail _ hp)
        have i1 := hsub8 _ r1
        have i2 := hsub8 _ r2
        have i3 := hsub8 _ r3
        have i4 : (cpud, cpuDict w t' y' regs rl pc (tkp + 1)) ∈ R8 := by rw [hR8]; exact .tail _ (.head _)
        have i5 := hsub8 _ r5
        have i6 := hsub8 _ r6
        have i7 := hsub8 _ r7
        have i8 : (regs, listOf (List.toArray (gvs.set 11 (.int fpv tf))) 0) ∈ R8 := by rw [hR8]; exact .head _
        have hms8 : ModsAre w R8 lv ms := hms.mono fun p hp => hsub8 p (hsub6 p hp)
        clear N8 N9
        refine' my_range (σ := Int × Tok × Bool × Addr × List Value × Led × Obj × List (Int × Value) × (Int → Int) × List Value × Nat × List Int) (n := mn) (fun i c nx => nx = (row, listOf (List.toArray c.2.2.2.2.2.2.2.2.2.1) c.2.2.2.2.2.2.2.2.2.2.1) :: (wd, c.2.2.2.2.2.2.1) :: c.2.2.2.2.2.1 ∧ RowOk c.2.2.2.2.2.2.2.2.2.1 ∧ c.2.2.2.2.2.2.1.IsDictOf (intKind PySem.Challenge.rw_nu0347_01.row.prog w) c.2.2.2.2.2.2.2.1 ∧ c.2.2.2.2.2.2.2.1.length ≤ 2 + 2 * i ∧ MemIs c.2.2.2.2.2.2.2.1 c.2.2.2.2.2.2.2.2.1 ∧
            Frames c.2.2.2.2.2.2.2.2.1 mn i c.2.2.2.2.2.2.2.2.2.2.2 c.1 ∧ c.2.2.2.2.2.2.2.2.2.2.2.length = i ∧ 216 ≤ c.1 ∧ c.1 ≤ 216 + 24 * (i : Int) ∧ (c.2.2.2.1, listOf (List.toArray c.2.2.2.2.1) 0) ∈ c.2.2.2.2.2.1 ∧ DatAll c.2.2.2.2.2.1 c.2.2.2.2.1 (tellRows ms (lawHead ms pc link ++ chainRows c.2.2.2.2.2.2.2.2.2.2.2)) ∧
            (c.2.2.1 = true ↔ ∀ x ∈ c.2.2.2.2.2.2.2.2.2.2.2, x ≠ 0) ∧ (∀ p ∈ R8, p ∈ c.2.2.2.2.2.1) ∧ OwnOff c.2.2.2.2.2.1 [row, wd] ∧ c.2.2.2.2.1.length ≤ 2 + i)
          (fun c => [(Str.ofString "row", .ref row), (Str.ofString "machine", .ref mach), (Str.ofString "whole_rows", .int (K : Int) tK), (Str.ofString "many", .int (mn : Int) _), (Str.ofString "spot", .int c.1 c.2.1), (Str.ofString "going", .bool c.2.2.1), (Str.ofString "due", .ref c.2.2.2.1)]) (216, _, true, D, dv, R8, o, kvs, W, vr9, nr9, []) rfl RR (range_facts mn (by omega)).1 (range_facts mn (by omega)).2 F9 N7
          ⟨rfl, hrr9, hD, by dsimp only; omega, hW, frames_start _ _, rfl, Int.le_refl _, (by dsimp only; omega), hsub8 _ hD6, ?iDat, by simp, fun p hp => hp, hoR8, by dsimp only; omega⟩ ?hpsA ?turnA ?doneA
        case iDat =>
          have e : lawHead ms pc link ++ chainRows [] = lawHead ms pc link := by simp [chainRows]
          dsimp only
          rw [e]
          exact hDat6.mono hsub8
        case hpsA => (try dsimp only); kst_all
        case turnA =>
          rintro i tt ⟨spot, ts, gg, D, dv, R9, o, kvs, W, vr, nr, bs⟩ nx u h tk own hi ⟨rfl, hrr, hDi, hkl, hMe, hFrm, hbl, hs1, hs2, hD9, hDat9, hgg, hsub9, hoR9, hdv9⟩ hoff F₁ N₁
          dsimp only at hrr hDi hkl hMe hFrm hbl hs1 hs2 hD9 hDat9 hgg hsub9 hoR9 hdv9 hoff N₁
          dsimp only [kstB] at F₁
          obtain ⟨Rt, hRt⟩ : ∃ Rt : Led, Rt = R9 ++ own := ⟨_, rfl⟩
          have N₂ := N₁
          rw [List.cons_append, List.cons_append, ← hRt] at N₂
          have hu1 : ∀ p ∈ R9, p ∈ Rt := by rw [hRt]; exact fun p hp => List.mem_append.mpr (.inl hp)
          have hu2 : ∀ p ∈ own, p ∈ Rt := by rw [hRt]; exact fun p hp => List.mem_append.mpr (.inr hp)
          have hoRt : OwnOff Rt [row, wd] := by
            rw [hRt]
            intro p hp b hb
            rcases List.mem_append.mp hp with hp | hp
            · exact hoR9 p hp b hb
            · refine hoff p hp b ?_
              simp only [List.mem_cons, List.not_mem_nil, or_false] at hb
              simp only [List.map_cons, List.mem_cons]
              rcases hb with rfl | rfl <;> simp
          have v1 := hu1 _ (hsub9 _ i1)
          have v2 := hu1 _ (hsub9 _ i2)
          have v5 := hu1 _ (hsub9 _ i5)
          have v6 := hu1 _ (hsub9 _ i6)
          have v7 := hu1 _ (hsub9 _ i7)
          have hD9t := hu1 _ hD9
          have hmst : ModsAre w Rt lv ms := hms8.mono fun p hp => hu1 p (hsub9 p hp)
          have hb1 : 0 ≤ spot - 4 := by omega
          have hb2 : spot - 4 < 720 := by omega
          have hb3 : 0 ≤ spot - 8 := by omega
          have hb4 : spot - 8 < 720 := by omega
          have hkl2 : kvs.length ≤ 1000 := by omega
          clear N₁ hRt
          k_steps
          rename_i bx _ _ _ _ _ _ _ _ _ _ _ _ _ _ _ _ _ _ _ _ _ _ _ hlB _ _ _ _ _ bz _ vrA nrA _ _ hrA _ _ _ _ _ _ _ _ _ _ _
          unfold HereStop
          have hv0 : 0 ≤ (if (i : Int) < (mn : Int) - 1 then spot + 12 + 4 * bz.fmod 4 else 0) := by split <;> omega
          have hv1 : (if (i : Int) < (mn : Int) - 1 then spot + 12 + 4 * bz.fmod 4 else 0) < 4294967296 := by split <;> omega
          refine cut_int (if (i : Int) < (mn : Int) - 1 then spot + 12 + 4 * bz.fmod 4 else 0) ?ifC ?ifD
          case ifC =>
            with_reducible refine IfExp_ ?_
            k_steps
            · unfold HereStop; exact ⟨_, _, by rw [if_pos (by omega)], rfl⟩
            · unfold HereStop; exact ⟨_, _, by rw [if_neg (by omega)], rfl⟩
          case ifD =>
          intro tvp uvp
          k_steps
          · rename_i oA kA hDA hlA hWA _ _ _ _ FA NA
            have hb0 : bx.fmod ((K : Int) + 3) = 0 := by assumption
            refine' InvEndG.intro (nx := (row, listOf (List.toArray vrA) nrA) :: (wd, oA) :: R9) FA NA ⟨(fun _ hp => nomatch hp), (spot + 12 + 4 * bz.fmod 4, _, false, D, dv, R9, oA, kA, _, vrA, nrA, bs ++ [bx.fmod ((K : Int) + 3)]), ⟨rfl, hrA, hDA, (by dsimp only; omega), hWA,
              frames_step hFrm hi hs1 (by omega) (by omega) rfl, (by simp [hbl]), (by dsimp only; omega), (by dsimp only; omega), hD9, (by dsimp only; rw [chain_snoc, if_neg (fun z => z.2 hb0), List.append_nil]; exact hDat9), ⟨(fun h => nomatch h), fun h => absurd hb0 (h _ (by simp))⟩, hsub9, hoR9, (by dsimp only; omega)⟩, (by kst_all)⟩ hoff
              (nx_two hu1) (fun p hp => .tail _ (.tail _ (hu2 p hp)))
          · rename_i oA kA hDA hlA hWA _ FA NA hbn hgt
            unfold HereStop
            refine' Call.use ?q9B ?q9F ?q9X ?q9N ?q9T ?q9hk (line2_spec _ _ _ _ _ _ _ _ _ _ _ _ _ _ ?q9h1 ?q9h2 ?q9h3 ?q9h4) ?q9hd ?q9hu ?_
            walk_at "m_used"
            case q9h1 => k_mem
            case q9h2 => k_mem
            case q9h3 => k_mem
            case q9h4 => walk_at "m_mods"
            intro r news' h' tk' hp F' N'
            obtain ⟨D2, dv2, tp2, rfl, rfl, l3, l4, hDat2, hc2⟩ := hp
            have hdl : dv2.length ≤ 1 := by rcases hc2 with ⟨_, rfl, _⟩ | ⟨_, _, _, _, _, _, rfl, _⟩ <;> simp
            have hdl2 : dv2.length ≤ 1000 := by omega
            have hdl3 : dv.length ≤ 1000 := by omega
            obtain ⟨R7, hR7⟩ : ∃ R7 : Led, R7 = (D2, listOf (List.toArray dv2) 0) :: (tp2 ++ Rt) := ⟨_, rfl⟩
            have N7 := News.sub (l' := (row, listOf (List.toArray vrA) nrA) :: (wd, oA) :: R7) N' (by rw [hR7]; exact mem_two)
            have hsub7 : ∀ p ∈ Rt, p ∈ R7 := by rw [hR7]; exact fun p hp => .tail _ (List.mem_append.mpr (.inr hp))
            have htp7 : ∀ p ∈ tp2, p ∈ R7 := by rw [hR7]; exact fun p hp => .tail _ (List.mem_append.mpr (.inl hp))
            have hD7 : (D2, listOf (List.toArray dv2) 0) ∈ R7 := by rw [hR7]; exact .head _
            have hD57 := hsub7 _ hD9t
            clear N' NA
            walk_at "m_on"
            k_steps
            rename_i D3 _ lD3 _ F8 N8
            refine' InvEndG.intro (nx := (row, listOf (List.toArray vrA) nrA) :: (wd, oA) :: ((D3, listOf (List.toArray (dv ++ dv2)) 0) :: (tp2 ++ R9))) F8 N8 ⟨(fun _ hp => nomatch hp), (spot + 12 + 4 * bz.fmod 4, _, gg, D3, dv ++ dv2, (D3, listOf (List.toArray (dv ++ dv2)) 0) :: (tp2 ++ R9), oA, kA, _, vrA, nrA, bs ++ [bx.fmod ((K : Int) + 3)]), ⟨rfl, hrA, hDA, (by dsimp only; omega), hWA,
              frames_step hFrm hi hs1 (by omega) (by omega) rfl, (by simp [hbl]), (by dsimp only; omega), (by dsimp only; omega), .head _, ?_, ⟨(fun h x hx => ?_), fun _ => hgt⟩, (fun p hp => .tail _ (List.mem_append.mpr (.inr (hsub9 p hp)))), ?_, (by simp only [List.length_append]; omega)⟩, (by kst_all)⟩ ?_ ?_ ?_
            · show DatAll ((D3, listOf (List.toArray (dv ++ dv2)) 0) :: (tp2 ++ R9)) (dv ++ dv2) (tellRows ms (lawHead ms pc link ++ chainRows (bs ++ [bx.fmod ((K : Int) + 3)])))
              rw [chain_snoc, if_pos ⟨hgg.mp hgt, hbn⟩, ← List.append_assoc, tell_append]
              exact (hDat9.mono fun p hp => .tail _ (List.mem_append.mpr (.inr hp))).append (hDat2.mono fun p hp => .tail _ (List.mem_append.mpr (.inl hp)))
            · rcases List.mem_append.mp (show x ∈ bs ++ [bx.fmod ((K : Int) + 3)] from hx) with hx | hx
              · exact hgg.mp hgt x hx
              · rw [List.mem_singleton.mp hx]; exact hbn
            · intro p hp b hb
              have hb' : b = row ∨ b = wd := by simpa using hb
              rcases List.mem_cons.mp hp with e | hp
              · rw [e]
                rcases hb' with rfl | rfl
                · exact Nat.ne_of_gt lD3.1
                · exact Nat.ne_of_gt lD3.2.1
              rcases List.mem_append.mp hp with hp | hp
              · have l5 := (l4 p hp).2
                rcases hb' with rfl | rfl
                · exact Nat.ne_of_gt (l5 _ (.head _))
                · exact Nat.ne_of_gt (l5 _ (.tail _ (.head _)))
              · exact hoR9 p hp b hb
            · intro p hp b hb
              simp only [List.map_cons, List.mem_cons] at hb
              rcases hb with rfl | rfl | rfl | hb
              · exact hoff p hp _ (.head _)
              · exact hoff p hp _ (.tail _ (.head _))
              · exact Nat.ne_of_lt (tb_ltOf lD3.2.2 p (hsub7 p (hu2 p hp)))
              · obtain ⟨q, hq, rfl⟩ := List.mem_map.mp hb
                rcases List.mem_append.mp hq with hq | hq
                · exact Nat.ne_of_lt ((l4 q hq).2 p (.tail _ (.tail _ (hu2 p hp))))
                · exact hoff p hp _ (.tail _ (.tail _ (List.mem_map.mpr ⟨q, hq, rfl⟩)))
            · intro p hp
              rcases List.mem_cons.mp hp with e | hp
              · rw [e]; exact .tail _ (.head _)
              rcases List.mem_cons.mp hp with e | hp
              · rw [e]; exact .tail _ (.tail _ (.head _))
              rcases List.mem_cons.mp hp with e | hp
              · rw [e]; exact .head _
              rcases List.mem_append.mp hp with hp | hp
              · exact .tail _ (.tail _ (.tail _ (htp7 p hp)))
              · exact .tail _ (.tail _ (.tail _ (hsub7 p (hu1 p hp))))
            · exact fun p hp => .tail _ (.tail _ (.tail _ (hsub7 p (hu2 p hp))))
          · rename_i oA kA hDA hlA hWA _ FA NA hbn hgf
            refine' InvEndG.intro (nx := (row, listOf (List.toArray vrA) nrA) :: (wd, oA) :: R9) FA NA ⟨(fun _ hp => nomatch hp), (spot + 12 + 4 * bz.fmod 4, _, gg, D, dv, R9, oA, kA, _, vrA, nrA, bs ++ [bx.fmod ((K : Int) + 3)]), ⟨rfl, hrA, hDA, (by dsimp only; omega), hWA,
              frames_step hFrm hi hs1 (by omega) (by omega) rfl, (by simp [hbl]), (by dsimp only; omega), (by dsimp only; omega), hD9, (by dsimp only; rw [chain_snoc, if_neg (fun z => by have := hgg.mpr z.1; rw [hgf] at this; cases this), List.append_nil]; exact hDat9), ⟨(fun h => by dsimp only at h; rw [hgf] at h; cases h), fun h => hgg.mpr fun x hx => h x (List.mem_append.mpr (.inl hx))⟩, hsub9, hoR9, (by dsimp only; omega)⟩, (by kst_all)⟩ hoff
              (nx_two hu1) (fun p hp => .tail _ (.tail _ (hu2 p hp)))
        case doneA =>
          rintro ⟨spot, ts, gg, D, dv, R9, o, kvs, W, vr, nr, bs⟩ nx u h tk ⟨rfl, hrr, hDi, hkl, hMe, hFrm, hbl, hs1, hs2, hD9, hDat9, hgg, hsub9, hoR9, hdv9⟩ F₁ N₁
          dsimp only at hrr hDi hkl hMe hFrm hbl hs1 hs2 hD9 hDat9 hgg hsub9 hoR9 hdv9 N₁
          dsimp only [kstB] at F₁
          have hM : MachAt w ((row, listOf (List.toArray vr) nr) :: (wd, o) :: R9) mach md mem memd wd cpu cpud regs rl ll t t' t'' y y' pc (tkp + 1) (gvs.set 11 (.int fpv tf)) 0 lv ln o :=
            ⟨.tail _ (.tail _ (hsub9 _ i1)), .tail _ (.tail _ (hsub9 _ i2)), .tail _ (.tail _ (hsub9 _ i3)), .tail _ (.tail _ (hsub9 _ i4)), .tail _ (.tail _ (hsub9 _ i8)), .tail _ (.tail _ (hsub9 _ i6)), .tail _ (.tail _ (hsub9 _ i7)), .tail _ (.tail _ (hsub9 _ i5)), .tail _ (.head _), lo⟩
          have hmsE : ModsAre w ((row, listOf (List.toArray vr) nr) :: (wd, o) :: R9) lv ms := hms8.mono fun p hp => .tail _ (.tail _ (hsub9 p hp))
          have hLk : Linked W fpv bs := by rw [hfp]; exact frames_end hFrm
          have hbs6 : bs.length ≤ 6 := by omega
          k_steps
          unfold HereStop
          refine' Call.use ?q9B ?q9F ?q9X ?q9N ?q9T ?q9hk (back_spec w _ mach md mem memd wd cpu cpud regs rl ll t t' t'' y y' pc (tkp + 1) (gvs.set 11 (.int fpv tf)) 0 lv ln o ms kvs W link fpv (tkl + 1 + 1) tf bs hM hmsE hDi hMe g15b g11b hLk hbs6) ?q9hd ?q9hu ?_
          walk_at "m_used"
          intro r news' h' tk' hp F' N'
          obtain ⟨D5, vs5, n5, ob5, rfl, rfl, hDat5⟩ := hp
          walk_at "m_on"
          k_steps
          unfold HereStop
          refine eq_lines (by assumption) (.head _) hDat5 (fun p hp => .tail _ (List.mem_append.mpr (.inl hp))) (.tail _ (List.mem_append.mpr (.inr (.tail _ (.tail _ hD9))))) hDat9 (fun p hp => .tail _ (List.mem_append.mpr (.inr (.tail _ (.tail _ hp))))) (by rw [head_eq hnm]) (tell_ok hnm _) (Nat.le_of_ble_eq_true rfl) ?_
          k_steps
theorem law_holds : PySem.Challenge.rw_nu0347_01.Holds := hd.2.2 law_walk left
end Mine
theorem PySem.Challenge.cw_nu0347_01_holds : PySem.Challenge.rw_nu0347_01.Holds := by
  exact Mine.law_holds
