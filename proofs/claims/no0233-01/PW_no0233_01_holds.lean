import PyProof.Rows.All
import Wide.All
import OpenK.AllK
import Wide.FinOn
import PySem.Challenge.RW_no0233_01
set_option Elab.async false
set_option maxRecDepth 100000
set_option maxHeartbeats 8000000
set_option linter.unusedVariables false

namespace RegLaw
open PySem PySem.W PyProof.Rows

/- the text's statements, by their place -/
noncomputable def pv : Program := PySem.Challenge.pw_no0233_01
noncomputable def stAt (i : Nat) : Stmt := match pv.main.body.drop i with
  | s :: _ => s
  | [] => .Pass ⟨0, 0, 0, 0⟩
noncomputable def stIn : Stmt → Stmt
  | .ClassDef _ _ _ (s :: _) _ _ _ _ _ _ _ => s
  | s => s
noncomputable def fnSt (q md : Str) (mt : Nat) (cd : Addr) : Stmt → Obj
  | .FunctionDef n ps b _ _ _ sc _ _ _ => { cls := .type "function", data := .func { name := n, qualname := q, params := ps, body := .stmts b, scope := sc, globals := 3, closure := [], defaults := .none, kwdefaults := .none, pyModule := .str md mt, code := .ref cd } }
  | _ => { cls := .none, data := .plain }
noncomputable def ent (P : Params) (k : Str) (t : Nat) (v : Value) : DictEntry := ⟨PyData.keyHash P k, .str k t, v⟩
/- what the text's top has written -/
noncomputable def hd.heap_39 (P : Params) : Frag := [
  (3, ⟨.type "dict", none, .dict #[ent P "__name__" 165 (.str "law_no0233_01" 417), ent P "__doc__" 166 (.none), ent P "__package__" 167 (.none), ent P "__loader__" 168 (.builtin "__main__.__loader__#opaque"), ent P "__spec__" 169 (.none), ent P "__annotations__" 170 (.ref 6), ent P "__builtins__" 171 (.ref 4), ent P "__file__" 173 (.str "/claim/cut.py" 172), ent P "__cached__" 174 (.none), ent P "SHAPES" 282 (.ref 15), ent P "LEAVING" 288 (.ref 17), ent P "Code" 323 (.ref 34), ent P "reads_of" 329 (.ref 43), ent P "writes_of" 336 (.ref 50), ent P "jumps_of" 342 (.ref 55), ent P "goes_on" 349 (.ref 62), ent P "with_jumps" 355 (.ref 67), ent P "read_part" 361 (.ref 72), ent P "with_reads" 372 (.ref 79), ent P "with_write" 380 (.ref 86), ent P "with_registers" 390 (.ref 93), ent P "show_part" 396 (.ref 98), ent P "show_op" 406 (.ref 105), ent P "list_code" 416 (.ref 112), ent P "_law_words" 424 (.ref 119), ent P "_law_pull" 434 (.ref 126), ent P "_law_say" 440 (.ref 131), ent P "_law_two" 446 (.ref 136), ent P "_law_list" 452 (.ref 141), ent P "_law_parts" 458 (.ref 146), ent P "_law_turned_right" 464 (.ref 151), ent P "law" 470 (.ref 156)] 32, #[]⟩),
  (15, ⟨.type "dict", none, .dict #[ent P "set" 189 (.str "w--" 190), ent P "move" 192 (.str "wr" 193), ent P "bin" 195 (.str "w--rr" 196), ent P "cmp" 198 (.str "w--rr" 199), ent P "un" 201 (.str "w--r" 202), ent P "conv" 204 (.str "w--r" 205), ent P "cat" 207 (.str "wrr" 208), ent P "addr" 210 (.str "w-" 211), ent P "elem" 213 (.str "wrR" 214), ent P "cut" 216 (.str "wroo" 217), ent P "load" 219 (.str "wr" 220), ent P "store" 222 (.str "rr" 223), ent P "temp" 225 (.str "w-r" 226), ent P "intr" 228 (.str "w--R" 229), ent P "call" 231 (.str "v-AJ" 232), ent P "count" 234 (.str "w-rrr" 235), ent P "jump" 237 (.str "j" 238), ent P "true" 240 (.str "rj" 241), ent P "false" 242 (.str "rj" 243), ent P "sign" 244 (.str "rjjj" 245), ent P "switch" 246 (.str "rJ" 247), ent P "setlabel" 248 (.str "r-" 249), ent P "agoto" 250 (.str "rP" 251), ent P "return" 252 (.str "o" 253), ent P "stop" 254 (.str "-" 255), ent P "pause" 256 (.str "-" 257), ent P "io" 258 (.str "-D" 259), ent P "nop" 260 (.str "" 261), ent P "length" 262 (.str "wr" 263), ent P "keep" 264 (.str "-r" 265), ent P "fetch" 266 (.str "w-" 267)] 31, #[]⟩),
  (17, { cls := .type "tuple", data := .seq #[.str "jump" 283, .str "sign" 284, .str "agoto" 285, .str "return" 286, .str "stop" 287] }),
  (30, { cls := .type "code", data := .fields #[.str "__init__" 301, .str "Code.__init__" 302, .str "/claim/cut.py" 303, .int 6 0, .int 5 0, .int 0 0, .int 0 0, .int 3 0, .ref 25, .bool true, .int 181 0, .ref 26, .none, .ref 27, .ref 28, .ref 29, .int 309 0, .int 6 0, .str "/claim/cut.py" 310] }),
  (31, fnSt "Code.__init__" "f77.code" 187 30 (stIn (stAt 3))),
  (33, ⟨.type "dict", none, .dict #[ent P "__module__" 296 (.str "f77.code" 187), ent P "__firstlineno__" 300 (.int 4 299), ent P "__init__" 311 (.ref 31), ent P "__static_attributes__" 316 (.ref 32), ent P "__dict__" 318 (.ref 35), ent P "__weakref__" 320 (.ref 36), ent P "__doc__" 321 (.none)] 4, #[]⟩),
  (34, { cls := .type "type", data := .cls { name := "Code", bases := [.type "object"], mro := [.ref 34, .type "object"], ns := 33, qualname := "Code" }, slots := #[none, none, some (.str "Code" 289), some (.str "Code" 297), some (.builtin "object.__new__"), some (.bool true)] }),
  (42, { cls := .type "code", data := .fields #[.str "reads_of" 324, .str "reads_of" 325, .str "/claim/cut.py" 326, .int 11 0, .int 1 0, .int 0 0, .int 0 0, .int 3 0, .ref 39, .bool true, .int 181 0, .ref 40, .none, .none, .none, .ref 41, .int 327 0, .int 11 0, .str "/claim/cut.py" 328] }),
  (43, fnSt "reads_of" "f77.code" 187 42 (stAt 4)),
  (49, { cls := .type "code", data := .fields #[.str "writes_of" 330, .str "writes_of" 331, .str "/claim/cut.py" 332, .int 25 0, .int 1 0, .int 0 0, .int 0 0, .int 3 0, .ref 44, .bool true, .int 181 0, .ref 45, .none, .ref 46, .ref 47, .ref 48, .int 334 0, .int 25 0, .str "/claim/cut.py" 335] }),
  (50, fnSt "writes_of" "f77.code" 187 49 (stAt 5)),
  (54, { cls := .type "code", data := .fields #[.str "jumps_of" 337, .str "jumps_of" 338, .str "/claim/cut.py" 339, .int 29 0, .int 1 0, .int 0 0, .int 0 0, .int 3 0, .ref 51, .bool true, .int 181 0, .ref 52, .none, .none, .none, .ref 53, .int 340 0, .int 29 0, .str "/claim/cut.py" 341] }),
  (55, fnSt "jumps_of" "f77.code" 187 54 (stAt 6)),
  (61, { cls := .type "code", data := .fields #[.str "goes_on" 343, .str "goes_on" 344, .str "/claim/cut.py" 345, .int 43 0, .int 1 0, .int 0 0, .int 0 0, .int 3 0, .ref 56, .bool true, .int 181 0, .ref 57, .none, .ref 58, .ref 59, .ref 60, .int 347 0, .int 43 0, .str "/claim/cut.py" 348] }),
  (62, fnSt "goes_on" "f77.code" 187 61 (stAt 7)),
  (66, { cls := .type "code", data := .fields #[.str "with_jumps" 350, .str "with_jumps" 351, .str "/claim/cut.py" 352, .int 45 0, .int 2 0, .int 0 0, .int 0 0, .int 3 0, .ref 63, .bool true, .int 181 0, .ref 64, .none, .none, .none, .ref 65, .int 353 0, .int 45 0, .str "/claim/cut.py" 354] }),
  (67, fnSt "with_jumps" "f77.code" 187 66 (stAt 8)),
  (71, { cls := .type "code", data := .fields #[.str "read_part" 356, .str "read_part" 357, .str "/claim/cut.py" 358, .int 65 0, .int 3 0, .int 0 0, .int 0 0, .int 3 0, .ref 68, .bool true, .int 181 0, .ref 69, .none, .none, .none, .ref 70, .int 359 0, .int 65 0, .str "/claim/cut.py" 360] }),
  (72, fnSt "read_part" "f77.code" 187 71 (stAt 9)),
  (78, { cls := .type "code", data := .fields #[.str "with_reads" 362, .str "with_reads" 363, .str "/claim/cut.py" 364, .int 75 0, .int 2 0, .int 0 0, .int 0 0, .int 3 0, .ref 73, .bool true, .int 181 0, .ref 74, .none, .ref 75, .ref 76, .ref 77, .int 370 0, .int 75 0, .str "/claim/cut.py" 371] }),
  (79, fnSt "with_reads" "f77.code" 187 78 (stAt 10)),
  (85, { cls := .type "code", data := .fields #[.str "with_write" 373, .str "with_write" 374, .str "/claim/cut.py" 375, .int 81 0, .int 2 0, .int 0 0, .int 0 0, .int 3 0, .ref 80, .bool true, .int 181 0, .ref 81, .none, .ref 82, .ref 83, .ref 84, .int 378 0, .int 81 0, .str "/claim/cut.py" 379] }),
  (86, fnSt "with_write" "f77.code" 187 85 (stAt 11)),
  (92, { cls := .type "code", data := .fields #[.str "with_registers" 381, .str "with_registers" 382, .str "/claim/cut.py" 383, .int 85 0, .int 2 0, .int 0 0, .int 0 0, .int 3 0, .ref 87, .bool true, .int 181 0, .ref 88, .none, .ref 89, .ref 90, .ref 91, .int 388 0, .int 85 0, .str "/claim/cut.py" 389] }),
  (93, fnSt "with_registers" "f77.code" 187 92 (stAt 12)),
  (97, { cls := .type "code", data := .fields #[.str "show_part" 391, .str "show_part" 392, .str "/claim/cut.py" 393, .int 89 0, .int 2 0, .int 0 0, .int 0 0, .int 3 0, .ref 94, .bool true, .int 181 0, .ref 95, .none, .none, .none, .ref 96, .int 394 0, .int 89 0, .str "/claim/cut.py" 395] }),
  (98, fnSt "show_part" "f77.code" 187 97 (stAt 13)),
  (104, { cls := .type "code", data := .fields #[.str "show_op" 397, .str "show_op" 398, .str "/claim/cut.py" 399, .int 107 0, .int 1 0, .int 0 0, .int 0 0, .int 3 0, .ref 99, .bool true, .int 181 0, .ref 100, .none, .ref 101, .ref 102, .ref 103, .int 404 0, .int 107 0, .str "/claim/cut.py" 405] }),
  (105, fnSt "show_op" "f77.code" 187 104 (stAt 14)),
  (111, { cls := .type "code", data := .fields #[.str "list_code" 407, .str "list_code" 408, .str "/claim/cut.py" 409, .int 113 0, .int 1 0, .int 0 0, .int 0 0, .int 3 0, .ref 106, .bool true, .int 181 0, .ref 107, .none, .ref 108, .ref 109, .ref 110, .int 414 0, .int 113 0, .str "/claim/cut.py" 415] }),
  (112, fnSt "list_code" "f77.code" 187 111 (stAt 15)),
  (118, { cls := .type "code", data := .fields #[.str "_law_words" 419, .str "_law_words" 420, .str "/claim/cut.py" 421, .int 121 0, .int 0 0, .int 0 0, .int 0 0, .int 3 0, .ref 113, .bool true, .int 181 0, .ref 114, .none, .ref 115, .ref 116, .ref 117, .int 422 0, .int 121 0, .str "/claim/cut.py" 423] }),
  (119, fnSt "_law_words" "law_no0233_01" 417 118 (stAt 17)),
  (125, { cls := .type "code", data := .fields #[.str "_law_pull" 425, .str "_law_pull" 426, .str "/claim/cut.py" 427, .int 123 0, .int 2 0, .int 0 0, .int 0 0, .int 3 0, .ref 120, .bool true, .int 181 0, .ref 121, .none, .ref 122, .ref 123, .ref 124, .int 432 0, .int 123 0, .str "/claim/cut.py" 433] }),
  (126, fnSt "_law_pull" "law_no0233_01" 417 125 (stAt 18)),
  (130, { cls := .type "code", data := .fields #[.str "_law_say" 435, .str "_law_say" 436, .str "/claim/cut.py" 437, .int 128 0, .int 1 0, .int 0 0, .int 0 0, .int 3 0, .ref 127, .bool true, .int 181 0, .ref 128, .none, .none, .none, .ref 129, .int 438 0, .int 128 0, .str "/claim/cut.py" 439] }),
  (131, fnSt "_law_say" "law_no0233_01" 417 130 (stAt 19)),
  (135, { cls := .type "code", data := .fields #[.str "_law_two" 441, .str "_law_two" 442, .str "/claim/cut.py" 443, .int 130 0, .int 3 0, .int 0 0, .int 0 0, .int 3 0, .ref 132, .bool true, .int 181 0, .ref 133, .none, .none, .none, .ref 134, .int 444 0, .int 130 0, .str "/claim/cut.py" 445] }),
  (136, fnSt "_law_two" "law_no0233_01" 417 135 (stAt 20)),
  (140, { cls := .type "code", data := .fields #[.str "_law_list" 447, .str "_law_list" 448, .str "/claim/cut.py" 449, .int 161 0, .int 2 0, .int 0 0, .int 0 0, .int 3 0, .ref 137, .bool true, .int 181 0, .ref 138, .none, .none, .none, .ref 139, .int 450 0, .int 161 0, .str "/claim/cut.py" 451] }),
  (141, fnSt "_law_list" "law_no0233_01" 417 140 (stAt 21)),
  (145, { cls := .type "code", data := .fields #[.str "_law_parts" 453, .str "_law_parts" 454, .str "/claim/cut.py" 455, .int 163 0, .int 4 0, .int 0 0, .int 0 0, .int 3 0, .ref 142, .bool true, .int 181 0, .ref 143, .none, .none, .none, .ref 144, .int 456 0, .int 163 0, .str "/claim/cut.py" 457] }),
  (146, fnSt "_law_parts" "law_no0233_01" 417 145 (stAt 22)),
  (150, { cls := .type "code", data := .fields #[.str "_law_turned_right" 459, .str "_law_turned_right" 460, .str "/claim/cut.py" 461, .int 200 0, .int 6 0, .int 0 0, .int 0 0, .int 3 0, .ref 147, .bool true, .int 181 0, .ref 148, .none, .none, .none, .ref 149, .int 462 0, .int 200 0, .str "/claim/cut.py" 463] }),
  (151, fnSt "_law_turned_right" "law_no0233_01" 417 150 (stAt 23))]
noncomputable def asK : List Addr := [3, 15, 17, 30, 31, 33, 34, 42, 43, 49, 50, 54, 55, 61, 62, 66, 67, 71, 72, 78, 79, 85, 86, 92, 93, 97, 98, 104, 105, 111, 112, 118, 119, 125, 126, 130, 131, 135, 136, 140, 141, 145, 146, 150, 151]
theorem asK_eq (P : Params) : asK = (hd.heap_39 P).map (·.1) := by rfl
noncomputable def qv : Program := view pv [24]
noncomputable def lsV : List Str := ["SHAPES", "LEAVING", "Code", "reads_of", "writes_of", "jumps_of", "goes_on", "with_jumps", "read_part", "with_reads", "with_write", "with_registers", "show_part", "show_op", "list_code", "_law_words", "_law_pull", "_law_say", "_law_two", "_law_list", "_law_parts", "_law_turned_right"]
noncomputable def xtV (s : Shared) : Bool := xlAt qv [] s && recOk PySem.Challenge.rw_no0233_01.row.records s
noncomputable abbrev hkV : Hook := kHook hd.heap_39 asK asK_eq
theorem left_f (w : World) : (fencedOpening treeTable pv w 2906).map (fun s₀ => (topFrom treeTable pv (w.withFollow "special-get-raises" false) 2906 s₀).map (fun s => (openSeen qv lsV (importedModules pv.main.body) xtV true s, hkV.obs s))) = some (some (openGood qv lsV, hkV.val (w.withFollow "special-get-raises" false))) := by
  unfold fencedOpening topFrom
  rw [PySem.W.Fast.te10274390034422433532, PySem.W.Fast.te14289696077712309145, PySem.W.Fast.te1435165496053646825, PySem.W.Fast.te14082659384304107361, PySem.W.Fast.te14364793385576792824, PySem.W.Fast.te4187177175401517315]
  kernel_rfl
theorem left_t (w : World) : (fencedOpening treeTable pv w 2906).map (fun s₀ => (topFrom treeTable pv (w.withFollow "special-get-raises" true) 2906 s₀).map (fun s => (openSeen qv lsV (importedModules pv.main.body) xtV true s, hkV.obs s))) = some (some (openGood qv lsV, hkV.val (w.withFollow "special-get-raises" true))) := by
  unfold fencedOpening topFrom
  rw [PySem.W.Fast.te10274390034422433532, PySem.W.Fast.te14289696077712309145, PySem.W.Fast.te1435165496053646825, PySem.W.Fast.te14082659384304107361, PySem.W.Fast.te14364793385576792824, PySem.W.Fast.te4187177175401517315]
  kernel_rfl
theorem pair_map {α β γ : Type} {o : Option α} {f : α → Option β} {g : α → Option γ} {b : β} {c : γ} (hf : o.map f = some (some b)) (hg : o.map g = some (some c)) : o.map (fun x => (f x, g x)) = some (some b, some c) := by
  cases o with
  | none => cases hf
  | some x =>
    have h1 : f x = some b := Option.some.inj hf
    have h2 : g x = some c := Option.some.inj hg
    show some (f x, g x) = _
    rw [h1, h2]
theorem left_all : LeftO pv qv lsV xtV hkV.obs hkV.val 2906 := LeftO.of_split "special-get-raises" fun w => pair_map (left_f w) (left_t w)
theorem said_all : PySem.W.OpenLaw.wellSaid PySem.Challenge.rw_no0233_01 = true := by
  rw [PySem.W.Fast.te9446332074065402090]
  delta PySem.W.Fast.tw9446332074065402090
  repeat' (with_reducible refine look_both ?_ ?_)
  all_goals (try delta PySem.W.Fast.tw17960256430627541270)
  all_goals (repeat' (with_reducible refine look_both ?_ ?_))
  all_goals (try delta PySem.W.Fast.tw2436336058641802641)
  all_goals (repeat' (with_reducible refine look_both ?_ ?_))
  all_goals (try delta PySem.W.Fast.tw12908688711261696721)
  all_goals (repeat' (with_reducible refine look_both ?_ ?_))
  all_goals as_aux_lemma => kernel_rfl
end RegLaw

namespace RegLaw
open PySem PySem.Calls PySem.W PyProof.Rows

/- ints: the value of a letter and an offset; letter 0 is nought -/
structure IE where
  v : Nat
  k : Int
inductive Pc where
  | lit (l : List Nat)
  | num (e : IE)
inductive SD where
  | none
  | bool (b : Bool)
  | int (e : IE)
  | str (ps : List Pc)
  | rep (d : SD)
  | tup (ds : List SD)
  | lst (ds : List SD)
  | map
  | emp

structure Vl where
  r : Nat → Int
  M : Int → Int
structure Vl.Ok (V : Vl) : Prop where
  zero : V.r 0 = 0
  lo : ∀ i, 0 ≤ V.r i
  hi : ∀ i, V.r i < 1000
  get : ∀ i, 0 < i → i < 100 → V.r (i + 100) = V.M (V.r i)
  neg : ∀ k, k < 0 → V.M k = k
noncomputable def IE.ev (V : Vl) (e : IE) : Int := V.r e.v + e.k
noncomputable def numCs (i : Int) : List Nat := (Str.ofString (toString i)).cps.toList
noncomputable def Pc.cs (V : Vl) : Pc → List Nat
  | .lit l => l
  | .num e => numCs (e.ev V)
noncomputable def csOf (V : Vl) : List Pc → List Nat
  | [] => []
  | p :: r => p.cs V ++ csOf V r
noncomputable def txt (V : Vl) (ps : List Pc) : Str := ⟨(csOf V ps).toArray⟩
theorem csOf_append (V : Vl) (a b : List Pc) : csOf V (a ++ b) = csOf V a ++ csOf V b := by
  induction a with
  | nil => rfl
  | cons p r ih => simp only [List.cons_append, csOf, ih, List.append_assoc]
theorem txt_append (V : Vl) (a b : List Pc) : txt V (a ++ b) = txt V a ++ txt V b := by
  unfold txt
  rw [csOf_append]
  show _ = Str.mk (_ ++ _)
  simp

mutual
noncomputable def toPy (V : Vl) : SD → PyData
  | .none => .none
  | .bool b => .bool b
  | .int e => .int (e.ev V)
  | .str ps => .str (txt V ps)
  | .rep d => .str (toPy V d).shown
  | .tup ds => .tuple (toPys V ds)
  | .lst ds => .list (toPys V ds)
  | .map => .none
  | .emp => .none
noncomputable def toPys (V : Vl) : List SD → List PyData
  | [] => []
  | d :: ds => toPy V d :: toPys V ds
end

/- a dict of ints to ints, by what get answers -/
noncomputable def MapObj (V : Vl) (o : Obj) : Prop := ∃ f : Int → Option Value, (∀ (h : Heap) (a : Addr) (prog : Program) (w : World), h.get? a = some o → h.MapOf (PySem.intKind prog w) a f) ∧
  ∀ k, (f k = none → V.M k = k) ∧ ∀ v, f k = some v → ∃ t, v = .int (V.M k) t

noncomputable def EmpObj (o : Obj) : Prop := ∀ (h : Heap) (a : Addr) (prog : Program) (w : World), h.get? a = some o → h.MapOf (PySem.intKind prog w) a fun _ => none

noncomputable def SeqObj (T : String) (vs : List Value) (o : Obj) : Prop := ∃ n, o = { cls := .type T, data := .seq vs.toArray n }

mutual
inductive VIn (V : Vl) (fz : List (Addr × Obj)) : Value → SD → Prop
  | none : VIn V fz .none .none
  | bool (b : Bool) : VIn V fz (.bool b) (.bool b)
  | int (e : IE) (t : Tok) : VIn V fz (.int (e.ev V) t) (.int e)
  | str (ps : List Pc) (t : Tok) : VIn V fz (.str (txt V ps) t) (.str ps)
  | rep (d : SD) (t : Tok) : VIn V fz (.str (toPy V d).shown t) (.rep d)
  | tup {a : Addr} {o : Obj} {vs : List Value} {ds : List SD} : (a, o) ∈ fz → SeqObj "tuple" vs o → VAll V fz vs ds → VIn V fz (.ref a) (.tup ds)
  | lst {a : Addr} {o : Obj} {vs : List Value} {ds : List SD} : (a, o) ∈ fz → SeqObj "list" vs o → VAll V fz vs ds → VIn V fz (.ref a) (.lst ds)
  | map {a : Addr} {o : Obj} : (a, o) ∈ fz → MapObj V o → (a == sysModules) = false → VIn V fz (.ref a) .map
  | emp {a : Addr} {o : Obj} : (a, o) ∈ fz → EmpObj o → (a == sysModules) = false → VIn V fz (.ref a) .emp
inductive VAll (V : Vl) (fz : List (Addr × Obj)) : List Value → List SD → Prop
  | nil : VAll V fz [] []
  | cons {v : Value} {vs : List Value} {d : SD} {ds : List SD} : VIn V fz v d → VAll V fz vs ds → VAll V fz (v :: vs) (d :: ds)
end
noncomputable def Sub (a b : List (Addr × Obj)) : Prop := ∀ p ∈ a, p ∈ b
theorem Sub.refl (a : List (Addr × Obj)) : Sub a a := fun _ h => h
theorem Sub.trans {a b c : List (Addr × Obj)} (h : Sub a b) (k : Sub b c) : Sub a c := fun p hp => k p (h p hp)
theorem Sub.cons {a : List (Addr × Obj)} (x : Addr × Obj) : Sub a (x :: a) := fun _ h => .tail _ h
mutual
theorem VIn.mono {V : Vl} {fz fz' : List (Addr × Obj)} (hs : Sub fz fz') : ∀ {v : Value} {d : SD}, VIn V fz v d → VIn V fz' v d
  | _, _, .none => .none
  | _, _, .bool b => .bool b
  | _, _, .int e t => .int e t
  | _, _, .str ps t => .str ps t
  | _, _, .rep d t => .rep d t
  | _, _, .tup h k r => .tup (hs _ h) k (VAll.mono hs r)
  | _, _, .lst h k r => .lst (hs _ h) k (VAll.mono hs r)
  | _, _, .map h k l => .map (hs _ h) k l
  | _, _, .emp h k l => .emp (hs _ h) k l
theorem VAll.mono {V : Vl} {fz fz' : List (Addr × Obj)} (hs : Sub fz fz') : ∀ {vs : List Value} {ds : List SD}, VAll V fz vs ds → VAll V fz' vs ds
  | _, _, .nil => .nil
  | _, _, .cons h r => .cons (VIn.mono hs h) (VAll.mono hs r)
end
theorem VAll.length {V : Vl} {fz : List (Addr × Obj)} : ∀ {vs : List Value} {ds : List SD}, VAll V fz vs ds → vs.length = ds.length
  | _, _, .nil => rfl
  | _, _, .cons _ r => by rw [List.length_cons, List.length_cons, VAll.length r]
theorem VAll.append {V : Vl} {fz : List (Addr × Obj)} : ∀ {vs ws : List Value} {ds es : List SD}, VAll V fz vs ds → VAll V fz ws es → VAll V fz (vs ++ ws) (ds ++ es)
  | _, _, _, _, .nil, k => k
  | _, _, _, _, .cons h r, k => .cons h (VAll.append r k)
theorem VAll.get {V : Vl} {fz : List (Addr × Obj)} : ∀ {vs : List Value} {ds : List SD} {k : Nat} {d : SD}, VAll V fz vs ds → ds[k]? = some d → ∃ v, vs[k]? = some v ∧ VIn V fz v d
  | _, _, _, _, .nil, hk => by simp at hk
  | _, _, 0, _, .cons h _, hk => by cases hk; exact ⟨_, rfl, h⟩
  | _, _, _ + 1, _, .cons _ r, hk => by
    simp only [List.getElem?_cons_succ] at hk ⊢
    exact VAll.get r hk
theorem VAll.drop {V : Vl} {fz : List (Addr × Obj)} : ∀ (k : Nat) {vs : List Value} {ds : List SD}, VAll V fz vs ds → VAll V fz (vs.drop k) (ds.drop k)
  | 0, _, _, h => h
  | _ + 1, _, _, .nil => .nil
  | k + 1, _, _, .cons _ r => VAll.drop k r
theorem VAll.take {V : Vl} {fz : List (Addr × Obj)} : ∀ (k : Nat) {vs : List Value} {ds : List SD}, VAll V fz vs ds → VAll V fz (vs.take k) (ds.take k)
  | 0, _, _, _ => .nil
  | _ + 1, _, _, .nil => .nil
  | k + 1, _, _, .cons h r => .cons h (VAll.take k r)

/- plain data: what the library's own reading covers -/
mutual
noncomputable def plain : SD → Bool
  | .none | .bool _ | .int _ | .str _ => true
  | .rep _ | .map | .emp => false
  | .tup ds | .lst ds => plains ds
noncomputable def plains : List SD → Bool
  | [] => true
  | d :: ds => plain d && plains ds
end
section
variable {V : Vl} {fz led : List (Addr × Obj)} {h₀ h : Heap} {L : Addr}
mutual
theorem VIn.reads (N : News h₀ L h led) (hs : Sub fz led) : ∀ {v : Value} {d : SD}, VIn V fz v d → plain d = true → ∃ as, Reads h v (toPy V d) as
  | _, _, .none, _ => ⟨_, by rw [toPy]; exact .none⟩
  | _, _, .bool b, _ => ⟨_, by rw [toPy]; exact .bool b⟩
  | _, _, .int e t, _ => ⟨_, by rw [toPy]; exact .int _ t⟩
  | _, _, .str ps t, _ => ⟨_, by rw [toPy]; exact .str _ t⟩
  | _, _, .rep d t, hp => by rw [plain] at hp; cases hp
  | _, _, .map _ _ _, hp => by rw [plain] at hp; cases hp
  | _, _, .emp _ _ _, hp => by rw [plain] at hp; cases hp
  | _, _, .tup hm k r, hp => by
    rw [plain] at hp
    obtain ⟨as, q⟩ := VAll.reads N hs r hp
    obtain ⟨n, rfl⟩ := k
    rw [toPy]
    exact ⟨as, reads_tuple_at (N.get (hs _ hm)) rfl rfl (by simpa using q)⟩
  | _, _, .lst hm k r, hp => by
    rw [plain] at hp
    obtain ⟨as, q⟩ := VAll.reads N hs r hp
    obtain ⟨n, rfl⟩ := k
    rw [toPy]
    exact ⟨_, reads_list_at (N.get (hs _ hm)) rfl rfl (by simpa using q)⟩
theorem VAll.reads (N : News h₀ L h led) (hs : Sub fz led) : ∀ {vs : List Value} {ds : List SD}, VAll V fz vs ds → plains ds = true → ∃ as, ReadsAll h vs (toPys V ds) as
  | _, _, .nil, _ => ⟨_, by rw [toPys]; exact .nil⟩
  | _, _, .cons hd r, hp => by
    rw [plains, Bool.and_eq_true] at hp
    obtain ⟨as, q⟩ := VIn.reads N hs hd hp.1
    obtain ⟨bs, p⟩ := VAll.reads N hs r hp.2
    rw [toPys]
    exact ⟨_, .cons q p⟩
end
end
end RegLaw

namespace RegLaw
open PySem PySem.Calls PySem.W PyProof.Rows

inductive X where
  | int (k : Nat) (p : Pos)
  | neg (k : Nat) (p q : Pos)
  | str (y : Str) (l : List Nat) (p : Pos)
  | bool (b : Bool) (p : Pos)
  | loc (x : Nat) (p : Pos)
  | cel (x : Nat) (p : Pos)
  | fre (x : Nat) (p : Pos)
  | cvr (x : Nat) (p : Pos)
  | sub (e i : X) (p : Pos)
  | sliT (e hi : X) (p q : Pos)
  | sliD (e lo : X) (p q : Pos)
  | sli (e lo hi : X) (p q : Pos)
  | shp (e : X) (p q : Pos)
  | lvg (e : X) (p q : Pos)
  | cmp (o : CmpOp) (a b : X) (p : Pos)
  | inn (neg : Bool) (a : X) (bs : List X) (p q : Pos)
  | or (es : List X) (p : Pos)
  | and (es : List X) (p : Pos)
  | not (e : X) (p : Pos)
  | call (f : Nat) (es : List X) (p q : Pos)
  | len (e : X) (p q : Pos)
  | strf (e : X) (p q : Pos)
  | repr (e : X) (p q : Pos)
  | tuple (e : X) (p q : Pos)
  | isT (e : X) (p r q : Pos)
  | get (m k d : X) (p q : Pos)
  | join (s e : X) (p q : Pos)
  | bin (o : Operator) (a b : X) (p : Pos)
  | ife (t a b : X) (p : Pos)
  | cmpr (elt : X) (x : Nat) (px : Pos) (src : X) (cond : List X) (sc : Scope) (p : Pos)
  | cmprR (elt : X) (x : Nat) (px : Pos) (hi : X) (pn pr : Pos) (sc : Scope) (p : Pos)
  | cmprT (elt : X) (x : Nat) (px : Pos) (hi : X) (pn pr : Pos) (ct : X) (sc : Scope) (p : Pos)
  | tup (es : List X) (p : Pos)
  | lst (es : List X) (p : Pos)
  | emp (p : Pos)

inductive S where
  | asL (x : Nat) (e : X) (p q : Pos)
  | asK (x : Nat) (elt : X) (y : Nat) (py : Pos) (src : X) (sc : Scope) (p q r : Pos)
  | asC (x : Nat) (e : X) (p q : Pos)
  | own (x : Nat) (es : List X) (p r q : Pos)
  | asT (xs : List (Nat × Pos)) (e : X) (p q : Pos)
  | augO (x : Nat) (e : X) (p q : Pos)
  | augL (x : Nat) (e : X) (p q : Pos)
  | augC (x : Nat) (e : X) (p q : Pos)
  | app (x : Nat) (e : X) (p r q s : Pos)
  | ife (t : X) (a b : List S) (p : Pos)
  | forR (x : Nat) (hi : X) (body : List S) (px pn pr p : Pos)
  | ret (e : X) (p : Pos)

noncomputable def nmT : List Str := [Str.ofString "found", Str.ofString "shape", Str.ofString "op", Str.ofString "at", Str.ofString "part", Str.ofString "one", Str.ofString "pair", Str.ofString "parts", Str.ofString "used", Str.ofString "ats", Str.ofString "k", Str.ofString "role", Str.ofString "mapping", Str.ofString "register", Str.ofString "fresh", Str.ofString "words", Str.ofString "word", Str.ofString "name", Str.ofString "r", Str.ofString "some", Str.ofString "n", Str.ofString "low", Str.ofString "high", Str.ofString "row", Str.ofString "numbers", Str.ofString "sign", Str.ofString "made", Str.ofString "given", Str.ofString "goals", Str.ofString "j", Str.ofString "reads", Str.ofString "before", Str.ofString "there", Str.ofString "other", Str.ofString "whole", Str.ofString "half", Str.ofString "last", Str.ofString "goal", Str.ofString "state", Str.ofString "ops", Str.ofString "rows", Str.ofString "turn", Str.ofString "script", Str.ofString "code"]
noncomputable def nm (x : Nat) : Str := nmT.getD x ""
noncomputable def gnT : List Str := [Str.ofString "reads_of", Str.ofString "writes_of", Str.ofString "jumps_of", Str.ofString "goes_on", Str.ofString "with_jumps", Str.ofString "read_part", Str.ofString "with_reads", Str.ofString "with_write", Str.ofString "with_registers", Str.ofString "show_part", Str.ofString "show_op", Str.ofString "list_code", Str.ofString "_law_words", Str.ofString "_law_pull", Str.ofString "_law_say", Str.ofString "_law_two", Str.ofString "_law_list", Str.ofString "_law_parts", Str.ofString "_law_turned_right", Str.ofString "law"]
noncomputable def gn (f : Nat) : Str := gnT.getD f ""

mutual
noncomputable def X.py : X → Expr
  | .int k p => .Constant (.int k) 0 p
  | .neg k p q => .UnaryOp .USub (.Constant (.int k) 0 p) q
  | .str y _ p => .Constant (.str y) 0 p
  | .bool b p => .Constant (.bool b) 0 p
  | .loc x p | .cel x p | .fre x p | .cvr x p => .Name (nm x) p
  | .sub e i p => .Subscript e.py i.py p
  | .sliT e hi p q => .Subscript e.py (.Slice none (some hi.py) none p) q
  | .sliD e lo p q => .Subscript e.py (.Slice (some lo.py) none none p) q
  | .sli e lo hi p q => .Subscript e.py (.Slice (some lo.py) (some hi.py) none p) q
  | .shp e p q => .Subscript (.Name "SHAPES" p) e.py q
  | .lvg e p q => .Compare e.py [.NotIn] [.Name "LEAVING" p] q
  | .cmp o a b p => .Compare a.py [o] [b.py] p
  | .inn neg a bs p q => .Compare a.py [if neg then .NotIn else .In] [.Tuple (pys bs) 0 p] q
  | .or es p => .BoolOp .Or (pys es) p
  | .and es p => .BoolOp .And (pys es) p
  | .not e p => .UnaryOp .Not e.py p
  | .call f es p q => .Call (.Name (gn f) p) (pys es) [] q
  | .len e p q => .Call (.Name "len" p) [e.py] [] q
  | .strf e p q => .Call (.Name "str" p) [e.py] [] q
  | .repr e p q => .Call (.Name "repr" p) [e.py] [] q
  | .tuple e p q => .Call (.Name "tuple" p) [e.py] [] q
  | .isT e p r q => .Call (.Name "isinstance" p) [e.py, .Name "tuple" r] [] q
  | .get m k d p q => .Call (.Attribute m.py "get" p) [k.py, d.py] [] q
  | .join s e p q => .Call (.Attribute s.py "join" p) [e.py] [] q
  | .bin o a b p => .BinOp a.py o b.py p
  | .ife t a b p => .IfExp t.py a.py b.py p
  | .cmpr elt x px src cond sc p => .ListComp elt.py [⟨.Name (nm x) px, src.py, pys cond, 0⟩] sc p
  | .cmprR elt x px hi pn pr sc p => .ListComp elt.py [⟨.Name (nm x) px, .Call (.Name "range" pn) [hi.py] [] pr, [], 0⟩] sc p
  | .cmprT elt x px hi pn pr ct sc p => .ListComp elt.py [⟨.Name (nm x) px, .Call (.Name "range" pn) [hi.py] [] pr, [ct.py], 0⟩] sc p
  | .tup es p => .Tuple (pys es) 0 p
  | .lst es p => .List (pys es) p
  | .emp p => .Dict [] [] p
noncomputable def pys : List X → List Expr
  | [] => []
  | e :: r => e.py :: pys r
end
mutual
noncomputable def S.py : S → Stmt
  | .asL x e p q => .Assign [.Name (nm x) p] e.py q
  | .asK x elt y py src sc p q r => .Assign [.Name (nm x) p] (.ListComp elt.py [⟨.Name (nm y) py, src.py, [], 0⟩] sc q) r
  | .asC x e p q => .Assign [.Name (nm x) p] e.py q
  | .own x es p r q => .Assign [.Name (nm x) p] (.List (pys es) r) q
  | .asT xs e p q => .Assign [.Tuple (xs.map fun z => .Name (nm z.1) z.2) 0 p] e.py q
  | .augO x e p q | .augL x e p q | .augC x e p q => .AugAssign (.Name (nm x) p) .Add e.py q
  | .app x e p r q s => .Expr (.Call (.Attribute (.Name (nm x) p) "append" r) [e.py] [] q) s
  | .ife t a b p => .If t.py (spys a) (spys b) p
  | .forR x hi body px pn pr p => .For (.Name (nm x) px) (.Call (.Name "range" pn) [hi.py] [] pr) (spys body) [] p
  | .ret e p => .Return (some e.py) p
noncomputable def spys : List S → List Stmt
  | [] => []
  | s :: r => s.py :: spys r
end

/- the evaluator -/
structure G where
  l : List (Nat × SD)
  c : List (Nat × Option SD)
  o : List (Nat × List SD)
  v : SD
inductive Fl where
  | nx
  | rt (d : SD)

noncomputable def look {α : Type} : List (Nat × α) → Nat → Option α
  | [], _ => none
  | p :: r, x => match Nat.beq p.1 x with
    | true => some p.2
    | false => look r x
noncomputable def put {α : Type} (x : Nat) (d : α) : List (Nat × α) → List (Nat × α)
  | [] => [(x, d)]
  | p :: r => match Nat.beq p.1 x with
    | true => (x, d) :: r
    | false => p :: put x d r

noncomputable def ieq (a b : Int) : Bool := match a, b with
  | .ofNat m, .ofNat n => Nat.beq m n
  | .negSucc m, .negSucc n => Nat.beq m n
  | _, _ => false
noncomputable def ilt (a b : Int) : Bool := match a, b with
  | .ofNat m, .ofNat n => Nat.blt m n
  | .ofNat _, .negSucc _ => false
  | .negSucc _, .ofNat _ => true
  | .negSucc m, .negSucc n => Nat.blt n m
noncomputable def small (k : Int) : Bool := match k with
  | .ofNat m => Nat.blt m 1000
  | .negSucc m => Nat.blt m 1000
noncomputable def IE.add (a b : IE) : Option IE := match Nat.beq b.v 0 with
  | true => some ⟨a.v, a.k + b.k⟩
  | false => match Nat.beq a.v 0 with
    | true => some ⟨b.v, a.k + b.k⟩
    | false => none
/- < of two: what is sure -/
noncomputable def IE.lt (a b : IE) : Option Bool := match Nat.beq a.v b.v with
  | true => some (ilt a.k b.k)
  | false => match Nat.beq b.v 0 with
    | true => match ilt a.k b.k with
      | true => none
      | false => some false
    | false => match Nat.beq a.v 0 with
      | true => match ilt a.k b.k with
        | true => some true
        | false => none
      | false => none
noncomputable def IE.eq (a b : IE) : Option Bool := match Nat.beq a.v b.v with
  | true => some (ieq a.k b.k)
  | false => none

noncomputable def lbeq : List Nat → List Nat → Bool
  | [], [] => true
  | a :: r, b :: t => match Nat.beq a b with
    | true => lbeq r t
    | false => false
  | _, _ => false
noncomputable def Pc.same : Pc → Pc → Bool
  | .lit a, .lit b => lbeq a b
  | .num a, .num b => Nat.beq a.v b.v && ieq a.k b.k
  | _, _ => false
noncomputable def all2 {α : Type} (f : α → α → Bool) : List α → List α → Bool
  | [], [] => true
  | a :: r, b :: t => match f a b with
    | true => all2 f r t
    | false => false
  | _, _ => false
noncomputable def SD.same : Nat → SD → SD → Bool
  | 0, _, _ => false
  | n + 1, a, b => match a, b with
    | .none, .none => true
    | .bool a, .bool b => a == b
    | .int a, .int b => Nat.beq a.v b.v && ieq a.k b.k
    | .str a, .str b => all2 Pc.same a b
    | .rep a, .rep b => SD.same n a b
    | .tup a, .tup b => all2 (SD.same n) a b
    | .lst a, .lst b => all2 (SD.same n) a b
    | _, _ => false
/- plain data of small depth, ints small: what may be compared and shown -/
noncomputable def SD.ok : Nat → SD → Bool
  | 0, _ => false
  | n + 1, d => match d with
    | .none => true
    | .int e => small e.k
    | .str ps => ps.all fun p => match p with | .lit l => l.all fun c => Nat.blt c 128 | .num e => small e.k
    | .tup ds | .lst ds => ds.all (SD.ok n)
    | _ => false

noncomputable def szL {α : Type} (l : List α) : Bool := Nat.blt l.length 1000
noncomputable def tlen : List Pc → Nat
  | [] => 0
  | .lit l :: r => l.length + tlen r
  | .num e :: r => match small e.k with
    | true => 8 + tlen r
    | false => 1000000
noncomputable def SD.wt : Nat → SD → Nat
  | 0, _ => 1000000
  | n + 1, d => match d with
    | .int e => match small e.k with
      | true => 16
      | false => 1000000
    | .str ps => tlen ps
    | .tup ds | .lst ds => ds.foldr (fun d k => SD.wt n d + 1 + k) 0
    | _ => 0
noncomputable def mkLit (l : List Nat) : List Pc := match l with
  | [] => []
  | _ => [.lit l]
noncomputable def dg (n : Nat) : List Nat := match Nat.blt n 10 with
  | true => [48 + n]
  | false => [48 + n / 10, 48 + n % 10]
noncomputable def numText (e : IE) : Option (List Pc) := match Nat.beq e.v 0 with
  | true => match e.k with
    | .ofNat n => match Nat.blt n 100 with
      | true => some [.lit (dg n)]
      | false => none
    | _ => none
  | false => match small e.k with
    | true => some [.num e]
    | false => none
/- two texts, one behind the other: literals at the seam meet -/
noncomputable def cat : List Pc → List Pc → List Pc
  | [], b => b
  | [.lit l], .lit m :: r => .lit (l ++ m) :: r
  | p :: a, b => p :: cat a b
noncomputable def litOf (ps : List Pc) : Option (List Nat) := match ps with
  | [] => some []
  | [.lit l] => some l
  | _ => none
noncomputable def strEq (a b : List Pc) : Option Bool := match litOf a, litOf b with
  | some x, some y => some (lbeq x y)
  | _, _ => match all2 Pc.same a b with
    | true => some true
    | false => none

noncomputable def natOf (d : SD) : Option Nat := match d with
  | .int e => match Nat.beq e.v 0 with
    | true => match e.k with
      | .ofNat n => match Nat.blt n 1000 with
        | true => some n
        | false => none
      | _ => none
    | false => none
  | _ => none
noncomputable def item (d : SD) (k : Nat) : Option SD := match d with
  | .tup ds | .lst ds => ds[k]?
  | .str ps => match litOf ps with
    | some l => match l[k]? with
      | some c => some (.str [.lit [c]])
      | none => none
    | none => none
  | _ => none
noncomputable def slice (d : SD) (lo : Nat) (hi : Option Nat) : Option SD := match d with
  | .lst ds => match szL ds with
    | true => match hi with
      | some h => match Nat.ble h ds.length && Nat.ble lo h with
        | true => some (.lst ((ds.drop lo).take (h - lo)))
        | false => none
      | none => none
    | false => none
  | .tup ds => match hi with
    | some _ => none
    | none => match Nat.ble lo ds.length && Nat.blt 0 lo && szL ds with
      | true => some (.tup (ds.drop lo))
      | false => none
  | .str ps => match litOf ps with
    | some l => match hi with
      | some h => match Nat.beq lo 0 && szL l with
        | true => some (.str (mkLit (l.take h)))
        | false => none
      | none => none
    | none => none
  | _ => none

noncomputable def shapeT : List (List Nat × List Nat) := []

noncomputable def compare (o : CmpOp) (a b : SD) : Option Bool := match a, b with
  | .int a, .int b => match o with
    | .Eq => IE.eq a b
    | .NotEq => (IE.eq a b).map (!·)
    | .Lt => IE.lt a b
    | .GtE => (IE.lt a b).map (!·)
    | _ => none
  | .str a, .str b => match o with
    | .Eq => strEq a b
    | .NotEq => (strEq a b).map (!·)
    | _ => none
  | .bool a, .bool b => match o with
    | .Eq => some (a == b)
    | .NotEq => some (a != b)
    | _ => none
  | .rep a, .rep b => match SD.same 12 a b with
    | true => match o with
      | .Eq => some true
      | .NotEq => some false
      | _ => none
    | false => none
  | a, b => match SD.same 12 a b && SD.ok 12 a with
    | true => match o with
      | .Eq => some true
      | .NotEq => some false
      | _ => none
    | false => none
noncomputable def litsOf : List SD → Option (List (List Nat))
  | [] => some []
  | .str ps :: r => match litOf ps, litsOf r with
    | some l, some ls => some (l :: ls)
    | _, _ => none
  | _ => none
noncomputable def binary (o : Operator) (a b : SD) : Option SD := match o with
  | .Add => match a, b with
    | .int a, .int b => match IE.add a b with
      | some e => match small e.k with
        | true => some (.int e)
        | false => none
      | none => none
    | .str a, .str b => match Nat.blt (tlen a + tlen b) 10000 with
      | true => some (.str (cat a b))
      | false => none
    | .lst a, .lst b => match szL a && szL b with
      | true => some (.lst (a ++ b))
      | false => none
    | .tup a, .tup b => match a, b with
      | x :: a, y :: b => match szL (x :: a) && szL (y :: b) with
        | true => some (.tup (x :: a ++ y :: b))
        | false => none
      | _, _ => none
    | _, _ => none
  | .Mod => match natOf a, natOf b with
    | some x, some y => match Nat.beq y 0 with
      | true => none
      | false => some (.int ⟨0, .ofNat (x % y)⟩)
    | _, _ => none
  | .FloorDiv => match natOf a, natOf b with
    | some x, some y => match Nat.beq y 0 with
      | true => none
      | false => some (.int ⟨0, .ofNat (x / y)⟩)
    | _, _ => none
  | .Mult => match natOf a, natOf b with
    | some x, some y => some (.int ⟨0, .ofNat (x * y)⟩)
    | _, _ => none
  | _ => none
noncomputable def joinT (sep : List Pc) : List SD → Option (List Pc)
  | [] => some []
  | .str ps :: r => match r with
    | [] => some ps
    | _ => match joinT sep r with
      | some qs => some (cat ps (cat sep qs))
      | none => none
  | _ => none
noncomputable def joinW (sep : Nat) : List SD → Nat
  | [] => 0
  | .str ps :: r => tlen ps + sep + joinW sep r
  | _ :: _ => 1000000
/- str of a list of noughts and the like is asked once: [0, 0] -/
noncomputable def strOfD (d : SD) : Option SD := match d with
  | .int e => match numText e with
    | some ps => some (.str ps)
    | none => none
  | .str ps => some (.str ps)
  | .lst ds => match ds with
    | [.int a, .int b] => match natOf (.int a), natOf (.int b) with
      | some x, some y => match Nat.blt x 10 && Nat.blt y 10 with
        | true => some (.str [.lit [91, 48 + x, 44, 32, 48 + y, 93]])
        | false => none
      | _, _ => none
    | _ => none
  | _ => none
noncomputable def getM (k d : SD) : Option SD := match k, d with
  | .int a, .int b => match Nat.beq a.v b.v && ieq a.k b.k with
    | true => match Nat.beq a.v 0 with
      | true => match ilt a.k 0 with
        | true => some (.int a)
        | false => none
      | false => match ieq a.k 0 && Nat.blt a.v 100 with
        | true => some (.int ⟨a.v + 100, 0⟩)
        | false => none
    | false => none
  | _, _ => none
noncomputable def evAll (ev : X → Option SD) : List X → Option (List SD)
  | [] => some []
  | e :: r => match ev e with
    | some d => match evAll ev r with
      | some ds => some (d :: ds)
      | none => none
    | none => none
noncomputable def boolOf (d : Option SD) : Option Bool := match d with
  | some (.bool b) => some b
  | _ => none
noncomputable def compGo (elt : SD → Option SD) (cond : SD → Option Bool) : List SD → Option (List SD)
  | [] => some []
  | d :: r => match cond d with
    | some true => match elt d with
      | some y => match compGo elt cond r with
        | some ys => some (y :: ys)
        | none => none
      | none => none
    | some false => compGo elt cond r
    | none => none
noncomputable def rangeD (i : Nat) : Nat → List SD
  | 0 => []
  | n + 1 => .int ⟨0, .ofNat i⟩ :: rangeD (i + 1) n
noncomputable def lookStr : List (List Nat × List Nat) → List Nat → Option (List Nat)
  | [], _ => none
  | p :: r, x => match lbeq p.1 x with
    | true => some p.2
    | false => lookStr r x
noncomputable def anyT (ev : X → Option Bool) (stop : Bool) : List X → Option Bool
  | [] => some (!stop)
  | e :: r => match ev e with
    | some b => match b == stop with
      | true => some stop
      | false => anyT ev stop r
    | none => none

structure FD where
  ps : List Nat
  cs : List Nat
  body : List S

structure Tb where
  shapes : List (List Nat × List Nat)
  leaving : List (List Nat)
  fn : Nat → Option FD

abbrev EvX := Bool → G → X → Option SD
abbrev EvS := G → List S → Option (Fl × G)
abbrev EvC := Nat → List SD → Option SD
structure Evs where
  x : EvX
  s : EvS
  c : EvC

noncomputable def valX (T : Tb) (ih : EvX) (cf : EvC) (g : G) (e : X) : Option SD := match e with
  | .int k _ => match Nat.blt k 1000 with
    | true => some (.int ⟨0, .ofNat k⟩)
    | false => none
  | .neg k _ _ => match Nat.blt k 1000 with
    | true => some (.int ⟨0, -(.ofNat k)⟩)
    | false => none
  | .str _ l _ => some (.str (mkLit l))
  | .bool b _ => some (.bool b)
  | .loc x _ => look g.l x
  | .cel x _ | .fre x _ => match look g.c x with
    | some (some d) => some d
    | _ => none
  | .cvr _ _ => some g.v
  | .sub e i _ => match ih false g e with
    | some d => match ih false g i with
      | some j => match natOf j with
        | some k => item d k
        | none => none
      | none => none
    | none => none
  | .sliT e hi _ _ => match ih false g e with
    | some d => match ih false g hi with
      | some j => match natOf j with
        | some k => slice d 0 (some k)
        | none => none
      | none => none
    | none => none
  | .sliD e lo _ _ => match ih false g e with
    | some d => match ih false g lo with
      | some j => match natOf j with
        | some k => slice d k none
        | none => none
      | none => none
    | none => none
  | .sli e lo hi _ _ => match ih false g e with
    | some (.str _) => none
    | some d => match ih false g lo with
      | some i => match ih false g hi with
        | some j => match natOf i, natOf j with
          | some a, some b => slice d a (some b)
          | _, _ => none
        | none => none
      | none => none
    | none => none
  | .shp e _ _ => match ih false g e with
    | some (.str ps) => match litOf ps with
      | some l => match lookStr T.shapes l with
        | some r => some (.str (mkLit r))
        | none => none
      | none => none
    | _ => none
  | .lvg e _ _ => match ih false g e with
    | some (.str ps) => match litOf ps with
      | some l => some (.bool (!(T.leaving.any (lbeq l))))
      | none => none
    | _ => none
  | .cmp o a b _ => match ih false g a with
    | some x => match ih false g b with
      | some y => match compare o x y with
        | some r => some (.bool r)
        | none => none
      | none => none
    | none => none
  | .inn neg a bs _ _ => match ih false g a with
    | some (.str ps) => match litOf ps with
      | some l => match evAll (ih false g) bs with
        | some ds => match szL ds with
          | true => match litsOf ds with
            | some ls => match neg with
              | true => some (.bool (!(ls.any (lbeq l))))
              | false => some (.bool (ls.any (lbeq l)))
            | none => none
          | false => none
        | none => none
      | none => none
    | _ => none
  | .call f es _ _ => match evAll (ih false g) es with
    | some ds => cf f ds
    | none => none
  | .len e _ _ => match ih false g e with
    | some d => match d with
      | .lst ds | .tup ds => match Nat.blt ds.length 1000 with
        | true => some (.int ⟨0, .ofNat ds.length⟩)
        | false => none
      | .str ps => match litOf ps with
        | some l => match Nat.blt l.length 1000 with
          | true => some (.int ⟨0, .ofNat l.length⟩)
          | false => none
        | none => none
      | _ => none
    | none => none
  | .strf e _ _ => match ih false g e with
    | some d => strOfD d
    | none => none
  | .repr e _ _ => match ih false g e with
    | some (.tup ds) => match SD.ok 12 (.tup ds) && Nat.blt (SD.wt 12 (.tup ds)) 10000 with
      | true => some (.rep (.tup ds))
      | false => none
    | _ => none
  | .tuple e _ _ => match ih false g e with
    | some (.lst ds) => match szL ds with
      | true => some (.tup ds)
      | false => none
    | _ => none
  | .isT e _ _ _ => match ih false g e with
    | some d => match d with
      | .tup _ => some (.bool true)
      | .int _ => some (.bool false)
      | _ => none
    | none => none
  | .get m k d _ _ => match ih false g m with
    | some .map => match ih false g k with
      | some x => match ih false g d with
        | some y => getM x y
        | none => none
      | none => none
    | some .emp => match ih false g k with
      | some (.int _) => ih false g d
      | _ => none
    | _ => none
  | .join s e _ _ => match ih false g s with
    | some (.str sep) => match ih false g e with
      | some (.lst ds) => match Nat.blt (joinW (tlen sep) ds) 10000 && Nat.blt (tlen sep) 10000 with
        | true => match joinT sep ds with
          | some ps => some (.str ps)
          | none => none
        | false => none
      | _ => none
    | _ => none
  | .bin o a b _ => match ih false g a with
    | some x => match ih false g b with
      | some y => binary o x y
      | none => none
    | none => none
  | .ife t a b _ => match boolOf (ih true g t) with
    | some true => ih false g a
    | some false => ih false g b
    | none => none
  | .cmpr elt _ _ src cond _ _ => match ih false g src with
    | some d => match cond with
      | [] => match d with
        | .lst ds => match szL ds with
          | true => match compGo (fun d => ih false { g with v := d } elt) (fun _ => some true) ds with
            | some ys => some (.lst ys)
            | none => none
          | false => none
        | _ => none
      | [ct] => match d with
        | .lst ds | .tup ds => match szL ds with
          | true => match compGo (fun d => ih false { g with v := d } elt) (fun d => boolOf (ih true { g with v := d } ct)) ds with
            | some ys => some (.lst ys)
            | none => none
          | false => none
        | _ => none
      | _ => none
    | none => none
  | .cmprR elt _ _ hi _ _ _ _ => match ih false g hi with
    | some d => match natOf d with
      | some n => match compGo (fun d => ih false { g with v := d } elt) (fun _ => some true) (rangeD 0 n) with
        | some ys => some (.lst ys)
        | none => none
      | none => none
    | none => none
  | .cmprT elt _ _ hi _ _ ct _ _ => match ih false g hi with
    | some d => match natOf d with
      | some n => match compGo (fun d => ih false { g with v := d } elt) (fun d => boolOf (ih true { g with v := d } ct)) (rangeD 0 n) with
        | some ys => some (.lst ys)
        | none => none
      | none => none
    | none => none
  | .tup es _ => match evAll (ih false g) es with
    | some ds => match szL ds with
      | true => some (.tup ds)
      | false => none
    | none => none
  | .lst es _ => match evAll (ih false g) es with
    | some ds => match szL ds with
      | true => some (.lst ds)
      | false => none
    | none => none
  | .emp _ => some .emp
  | .or _ _ | .and _ _ | .not _ _ => none
noncomputable def truX (T : Tb) (ih : EvX) (cf : EvC) (g : G) (e : X) : Option SD := match e with
  | .or es _ => match anyT (fun e => boolOf (ih true g e)) true es with
    | some b => some (.bool b)
    | none => none
  | .and es _ => match anyT (fun e => boolOf (ih true g e)) false es with
    | some b => some (.bool b)
    | none => none
  | .not e _ => match boolOf (ih true g e) with
    | some b => some (.bool (!b))
    | none => none
  | .ife _ _ _ _ | .lvg _ _ _ => none
  | e => match valX T ih cf g e with
    | some (.bool b) => some (.bool b)
    | _ => none
noncomputable def stepX (T : Tb) (ih : EvX) (cf : EvC) : EvX := fun t g e => match t with
  | true => truX T ih cf g e
  | false => valX T ih cf g e

noncomputable def nmN : Nat := 38
noncomputable def G.setL (g : G) (x : Nat) (d : SD) : Option G := match look g.o x, Nat.blt x nmN with
  | none, true => some { g with l := put x d g.l }
  | _, _ => none
noncomputable def setLs (g : G) : List Nat → List SD → Option G
  | [], [] => some g
  | x :: xs, d :: ds => match g.setL x d with
    | some g' => setLs g' xs ds
    | none => none
  | _, _ => none
noncomputable def putO {α : Type} (x : Nat) (ok : α → Bool) (f : α → α) : List (Nat × α) → Option (List (Nat × α))
  | [] => none
  | p :: r => match Nat.beq p.1 x with
    | true => match ok p.2 with
      | true => some ((p.1, f p.2) :: r)
      | false => none
    | false => match putO x ok f r with
      | some r' => some (p :: r')
      | none => none
noncomputable def stepOne (_T : Tb) (ih : EvX) (ihs : EvS) (g : G) (s : S) : Option (Fl × G) := match s with
  | .asL x e _ _ => match ih false g e with
    | some d => match g.setL x d with
      | some g' => some (.nx, g')
      | none => none
    | none => none
  | .asK x elt _ _ src _ _ _ _ => match ih false g src with
    | some (.lst ds) => match szL ds with
      | true => match compGo (fun d => ih false { g with v := d } elt) (fun _ => some true) ds with
        | some ys => match g.setL x (.lst ys) with
          | some g' => some (.nx, g')
          | none => none
        | none => none
      | false => none
    | _ => none
  | .asC x e _ _ => match ih false g e with
    | some d => match putO x (fun _ => true) (fun _ => some d) g.c with
      | some c' => some (.nx, { g with c := c' })
      | none => none
    | none => none
  | .own x es _ _ _ => match evAll (ih false g) es with
    | some ds => match look g.l x, look g.o x, Nat.blt x nmN && szL ds with
      | none, none, true => some (.nx, { g with o := (x, ds) :: g.o })
      | _, _, _ => none
    | none => none
  | .asT xs e _ _ => match ih false g e with
    | some (.tup ds) => match setLs g (xs.map (·.1)) ds with
      | some g' => some (.nx, g')
      | none => none
    | _ => none
  | .augO x e _ _ => match ih false g e with
    | some (.lst ds) => match putO x (fun xs => szL xs && szL ds) (fun xs => xs ++ ds) g.o with
      | some o' => some (.nx, { g with o := o' })
      | none => none
    | _ => none
  | .augL x e _ _ => match look g.l x with
    | some (.str a) => match ih false g e with
      | some (.str b) => match Nat.blt (tlen a + tlen b) 10000 with
        | true => match g.setL x (.str (cat a b)) with
          | some g' => some (.nx, g')
          | none => none
        | false => none
      | _ => none
    | _ => none
  | .augC x e _ _ => match look g.c x with
    | some (some (.int a)) => match ih false g e with
      | some (.int b) => match IE.add a b with
        | some i => match small i.k with
          | true => match putO x (fun _ => true) (fun _ => some (.int i)) g.c with
            | some c' => some (.nx, { g with c := c' })
            | none => none
          | false => none
        | none => none
      | _ => none
    | _ => none
  | .app x e _ _ _ _ => match ih false g e with
    | some d => match putO x szL (fun xs => xs ++ [d]) g.o with
      | some o' => some (.nx, { g with o := o' })
      | none => none
    | none => none
  | .ife t a b _ => match boolOf (ih true g t) with
    | some true => ihs g a
    | some false => ihs g b
    | none => none
  | .forR _ _ _ _ _ _ _ => none
  | .ret e _ => match ih false { l := g.o.map (fun p => (p.1, SD.lst p.2)) ++ g.l, c := g.c, o := [], v := g.v } e with
    | some d => some (.rt d, g)
    | none => none
noncomputable def forGo (body : G → Option (Fl × G)) (x : Nat) : Nat → Nat → G → Option (Fl × G)
  | 0, _, g => some (.nx, g)
  | n + 1, i, g => match g.setL x (.int ⟨0, .ofNat i⟩) with
    | some g₁ => match body g₁ with
      | some (.nx, g₂) => forGo body x n (i + 1) g₂
      | some (.rt d, g₂) => some (.rt d, g₂)
      | none => none
    | none => none
noncomputable def stepFor (T : Tb) (ih : EvX) (ihs : EvS) (g : G) (s : S) : Option (Fl × G) := match s with
  | .forR x hi body _ _ _ _ => match ih false g hi with
    | some d => match natOf d with
      | some n => forGo (fun g => ihs g body) x n 0 g
      | none => none
    | none => none
  | s => stepOne T ih ihs g s
noncomputable def seqGo (one : G → S → Option (Fl × G)) : G → List S → Option (Fl × G)
  | g, [] => some (.nx, g)
  | g, s :: r => match one g s with
    | some (.nx, g') => seqGo one g' r
    | some (.rt d, g') => some (.rt d, g')
    | none => none
noncomputable def bindP : List Nat → List SD → Option (List (Nat × SD))
  | [], [] => some []
  | x :: xs, d :: ds => match bindP xs ds with
    | some r => some ((x, d) :: r)
    | none => none
  | _, _ => none
noncomputable def stepC (T : Tb) (ihs : EvS) : EvC := fun f ds => match T.fn f with
  | some fd => match bindP fd.ps ds with
    | some bs => match ihs { l := bs.filter fun p => !(fd.cs.any (Nat.beq p.1)), c := fd.cs.map fun x => (x, look bs x), o := [], v := .none } fd.body with
      | some (.rt d, _) => some d
      | _ => none
    | none => none
  | none => none
noncomputable def evs (T : Tb) : Nat → Evs
  | 0 => ⟨fun _ _ _ => none, fun _ _ => none, fun _ _ => none⟩
  | n + 1 => ⟨stepX T (evs T n).x (evs T n).c, seqGo (stepFor T (evs T n).x (evs T n).s), stepC T (evs T n).s⟩
end RegLaw

namespace RegLaw
open PySem PySem.Calls PySem.W PyProof.Rows
noncomputable def shapesT : List (List Nat × List Nat) := [([115, 101, 116], [119, 45, 45]), ([109, 111, 118, 101], [119, 114]), ([98, 105, 110], [119, 45, 45, 114, 114]), ([99, 109, 112], [119, 45, 45, 114, 114]), ([117, 110], [119, 45, 45, 114]), ([99, 111, 110, 118], [119, 45, 45, 114]), ([99, 97, 116], [119, 114, 114]), ([97, 100, 100, 114], [119, 45]), ([101, 108, 101, 109], [119, 114, 82]), ([99, 117, 116], [119, 114, 111, 111]), ([108, 111, 97, 100], [119, 114]), ([115, 116, 111, 114, 101], [114, 114]), ([116, 101, 109, 112], [119, 45, 114]), ([105, 110, 116, 114], [119, 45, 45, 82]), ([99, 97, 108, 108], [118, 45, 65, 74]), ([99, 111, 117, 110, 116], [119, 45, 114, 114, 114]), ([106, 117, 109, 112], [106]), ([116, 114, 117, 101], [114, 106]), ([102, 97, 108, 115, 101], [114, 106]), ([115, 105, 103, 110], [114, 106, 106, 106]), ([115, 119, 105, 116, 99, 104], [114, 74]), ([115, 101, 116, 108, 97, 98, 101, 108], [114, 45]), ([97, 103, 111, 116, 111], [114, 80]), ([114, 101, 116, 117, 114, 110], [111]), ([115, 116, 111, 112], [45]), ([112, 97, 117, 115, 101], [45]), ([105, 111], [45, 68]), ([110, 111, 112], []), ([108, 101, 110, 103, 116, 104], [119, 114]), ([107, 101, 101, 112], [45, 114]), ([102, 101, 116, 99, 104], [119, 45])]
noncomputable def leavingT : List (List Nat) := [[106, 117, 109, 112], [115, 105, 103, 110], [97, 103, 111, 116, 111], [114, 101, 116, 117, 114, 110], [115, 116, 111, 112]]

noncomputable def b_reads_of : List S :=
  [.own 0 [] ⟨12, 4, 12, 9⟩ ⟨12, 12, 12, 14⟩ ⟨12, 4, 12, 14⟩,
   .asL 1 (.shp (.sub (.loc 2 ⟨13, 19, 13, 21⟩) (.int 0 ⟨13, 22, 13, 23⟩) ⟨13, 19, 13, 24⟩) ⟨13, 12, 13, 18⟩ ⟨13, 12, 13, 25⟩) ⟨13, 4, 13, 9⟩ ⟨13, 4, 13, 25⟩,
   .forR 3 (.len (.loc 1 ⟨14, 24, 14, 29⟩) ⟨14, 20, 14, 23⟩ ⟨14, 20, 14, 30⟩) [.asL 4 (.sub (.loc 2 ⟨15, 15, 15, 17⟩) (.bin .Add (.loc 3 ⟨15, 18, 15, 20⟩) (.int 1 ⟨15, 23, 15, 24⟩) ⟨15, 18, 15, 24⟩) ⟨15, 15, 15, 25⟩) ⟨15, 8, 15, 12⟩ ⟨15, 8, 15, 25⟩,
   .ife (.or [.cmp .Eq (.sub (.loc 1 ⟨16, 11, 16, 16⟩) (.loc 3 ⟨16, 17, 16, 19⟩) ⟨16, 11, 16, 20⟩) (.str (Str.ofString "r") [114] ⟨16, 24, 16, 27⟩) ⟨16, 11, 16, 27⟩, .and [.cmp .Eq (.sub (.loc 1 ⟨16, 32, 16, 37⟩) (.loc 3 ⟨16, 38, 16, 40⟩) ⟨16, 32, 16, 41⟩) (.str (Str.ofString "o") [111] ⟨16, 45, 16, 48⟩) ⟨16, 32, 16, 48⟩, .cmp .GtE (.loc 4 ⟨16, 53, 16, 57⟩) (.int 0 ⟨16, 61, 16, 62⟩) ⟨16, 53, 16, 62⟩] ⟨16, 32, 16, 62⟩] ⟨16, 11, 16, 63⟩) [.app 0 (.loc 4 ⟨17, 25, 17, 29⟩) ⟨17, 12, 17, 17⟩ ⟨17, 12, 17, 24⟩ ⟨17, 12, 17, 30⟩ ⟨17, 12, 17, 30⟩] [.ife (.cmp .Eq (.sub (.loc 1 ⟨18, 13, 18, 18⟩) (.loc 3 ⟨18, 19, 18, 21⟩) ⟨18, 13, 18, 22⟩) (.str (Str.ofString "R") [82] ⟨18, 26, 18, 29⟩) ⟨18, 13, 18, 29⟩) [.augO 0 (.loc 4 ⟨19, 21, 19, 25⟩) ⟨19, 12, 19, 17⟩ ⟨19, 12, 19, 25⟩] [.ife (.cmp .Eq (.sub (.loc 1 ⟨20, 13, 20, 18⟩) (.loc 3 ⟨20, 19, 20, 21⟩) ⟨20, 13, 20, 22⟩) (.str (Str.ofString "A") [65] ⟨20, 26, 20, 29⟩) ⟨20, 13, 20, 29⟩) [.augO 0 (.cmpr (.cvr 5 ⟨21, 22, 21, 25⟩) 5 ⟨21, 30, 21, 33⟩ (.loc 4 ⟨21, 37, 21, 41⟩) [.not (.isT (.cvr 5 ⟨21, 60, 21, 63⟩) ⟨21, 49, 21, 59⟩ ⟨21, 65, 21, 70⟩ ⟨21, 49, 21, 71⟩) ⟨21, 45, 21, 71⟩] { kind := .function, names := [(Str.ofString ".0", .local), (Str.ofString "one", .local), (Str.ofString "isinstance", .globalImplicit), (Str.ofString "tuple", .globalImplicit)], isGenerator := false, isCoroutine := false, more := [] } ⟨21, 21, 21, 72⟩) ⟨21, 12, 21, 17⟩ ⟨21, 12, 21, 72⟩] [.ife (.cmp .Eq (.sub (.loc 1 ⟨22, 13, 22, 18⟩) (.loc 3 ⟨22, 19, 22, 21⟩) ⟨22, 13, 22, 22⟩) (.str (Str.ofString "D") [68] ⟨22, 26, 22, 29⟩) ⟨22, 13, 22, 29⟩) [.augO 0 (.sub (.loc 4 ⟨23, 21, 23, 25⟩) (.int 0 ⟨23, 26, 23, 27⟩) ⟨23, 21, 23, 28⟩) ⟨23, 12, 23, 17⟩ ⟨23, 12, 23, 28⟩] [] ⟨22, 8, 23, 28⟩] ⟨20, 8, 23, 28⟩] ⟨18, 8, 23, 28⟩] ⟨16, 8, 23, 28⟩] ⟨14, 8, 14, 10⟩ ⟨14, 14, 14, 19⟩ ⟨14, 14, 14, 31⟩ ⟨14, 4, 23, 28⟩,
   .ret (.loc 0 ⟨24, 11, 24, 16⟩) ⟨24, 4, 24, 16⟩]
noncomputable def f_reads_of : FD := { ps := [2], cs := [], body := b_reads_of }
noncomputable def b_writes_of : List S :=
  [.ife (.inn false (.sliT (.shp (.sub (.loc 2 ⟨26, 14, 26, 16⟩) (.int 0 ⟨26, 17, 26, 18⟩) ⟨26, 14, 26, 19⟩) ⟨26, 7, 26, 13⟩ ⟨26, 7, 26, 20⟩) (.int 1 ⟨26, 22, 26, 23⟩) ⟨26, 21, 26, 23⟩ ⟨26, 7, 26, 24⟩) [.str (Str.ofString "w") [119] ⟨26, 29, 26, 32⟩, .str (Str.ofString "v") [118] ⟨26, 34, 26, 37⟩] ⟨26, 28, 26, 38⟩ ⟨26, 7, 26, 38⟩) [.ret (.sub (.loc 2 ⟨27, 15, 27, 17⟩) (.int 1 ⟨27, 18, 27, 19⟩) ⟨27, 15, 27, 20⟩) ⟨27, 8, 27, 20⟩] [] ⟨26, 4, 27, 20⟩,
   .ret (.neg 1 ⟨28, 12, 28, 13⟩ ⟨28, 11, 28, 13⟩) ⟨28, 4, 28, 13⟩]
noncomputable def f_writes_of : FD := { ps := [2], cs := [], body := b_writes_of }
noncomputable def b_jumps_of : List S :=
  [.own 0 [] ⟨30, 4, 30, 9⟩ ⟨30, 12, 30, 14⟩ ⟨30, 4, 30, 14⟩,
   .asL 1 (.shp (.sub (.loc 2 ⟨31, 19, 31, 21⟩) (.int 0 ⟨31, 22, 31, 23⟩) ⟨31, 19, 31, 24⟩) ⟨31, 12, 31, 18⟩ ⟨31, 12, 31, 25⟩) ⟨31, 4, 31, 9⟩ ⟨31, 4, 31, 25⟩,
   .forR 3 (.len (.loc 1 ⟨32, 24, 32, 29⟩) ⟨32, 20, 32, 23⟩ ⟨32, 20, 32, 30⟩) [.asL 4 (.sub (.loc 2 ⟨33, 15, 33, 17⟩) (.bin .Add (.loc 3 ⟨33, 18, 33, 20⟩) (.int 1 ⟨33, 23, 33, 24⟩) ⟨33, 18, 33, 24⟩) ⟨33, 15, 33, 25⟩) ⟨33, 8, 33, 12⟩ ⟨33, 8, 33, 25⟩,
   .ife (.cmp .Eq (.sub (.loc 1 ⟨34, 11, 34, 16⟩) (.loc 3 ⟨34, 17, 34, 19⟩) ⟨34, 11, 34, 20⟩) (.str (Str.ofString "j") [106] ⟨34, 24, 34, 27⟩) ⟨34, 11, 34, 27⟩) [.app 0 (.loc 4 ⟨35, 25, 35, 29⟩) ⟨35, 12, 35, 17⟩ ⟨35, 12, 35, 24⟩ ⟨35, 12, 35, 30⟩ ⟨35, 12, 35, 30⟩] [.ife (.cmp .Eq (.sub (.loc 1 ⟨36, 13, 36, 18⟩) (.loc 3 ⟨36, 19, 36, 21⟩) ⟨36, 13, 36, 22⟩) (.str (Str.ofString "J") [74] ⟨36, 26, 36, 29⟩) ⟨36, 13, 36, 29⟩) [.augO 0 (.loc 4 ⟨37, 21, 37, 25⟩) ⟨37, 12, 37, 17⟩ ⟨37, 12, 37, 25⟩] [.ife (.cmp .Eq (.sub (.loc 1 ⟨38, 13, 38, 18⟩) (.loc 3 ⟨38, 19, 38, 21⟩) ⟨38, 13, 38, 22⟩) (.str (Str.ofString "P") [80] ⟨38, 26, 38, 29⟩) ⟨38, 13, 38, 29⟩) [.augO 0 (.cmpr (.sub (.cvr 6 ⟨39, 22, 39, 26⟩) (.int 1 ⟨39, 27, 39, 28⟩) ⟨39, 22, 39, 29⟩) 6 ⟨39, 34, 39, 38⟩ (.loc 4 ⟨39, 42, 39, 46⟩) [] { kind := .function, names := [(Str.ofString ".0", .local), (Str.ofString "pair", .local)], isGenerator := false, isCoroutine := false, more := [] } ⟨39, 21, 39, 47⟩) ⟨39, 12, 39, 17⟩ ⟨39, 12, 39, 47⟩] [.ife (.cmp .Eq (.sub (.loc 1 ⟨40, 13, 40, 18⟩) (.loc 3 ⟨40, 19, 40, 21⟩) ⟨40, 13, 40, 22⟩) (.str (Str.ofString "D") [68] ⟨40, 26, 40, 29⟩) ⟨40, 13, 40, 29⟩) [.augO 0 (.sub (.loc 4 ⟨41, 21, 41, 25⟩) (.int 1 ⟨41, 26, 41, 27⟩) ⟨41, 21, 41, 28⟩) ⟨41, 12, 41, 17⟩ ⟨41, 12, 41, 28⟩] [] ⟨40, 8, 41, 28⟩] ⟨38, 8, 41, 28⟩] ⟨36, 8, 41, 28⟩] ⟨34, 8, 41, 28⟩] ⟨32, 8, 32, 10⟩ ⟨32, 14, 32, 19⟩ ⟨32, 14, 32, 31⟩ ⟨32, 4, 41, 28⟩,
   .ret (.loc 0 ⟨42, 11, 42, 16⟩) ⟨42, 4, 42, 16⟩]
noncomputable def f_jumps_of : FD := { ps := [2], cs := [], body := b_jumps_of }
noncomputable def b_goes_on : List S :=
  [.ret (.lvg (.sub (.loc 2 ⟨44, 11, 44, 13⟩) (.int 0 ⟨44, 14, 44, 15⟩) ⟨44, 11, 44, 16⟩) ⟨44, 24, 44, 31⟩ ⟨44, 11, 44, 31⟩) ⟨44, 4, 44, 31⟩]
noncomputable def f_goes_on : FD := { ps := [2], cs := [], body := b_goes_on }
noncomputable def b_with_jumps : List S :=
  [.asL 1 (.shp (.sub (.loc 2 ⟨46, 19, 46, 21⟩) (.int 0 ⟨46, 22, 46, 23⟩) ⟨46, 19, 46, 24⟩) ⟨46, 12, 46, 18⟩ ⟨46, 12, 46, 25⟩) ⟨46, 4, 46, 9⟩ ⟨46, 4, 46, 25⟩,
   .own 7 [.sub (.loc 2 ⟨47, 13, 47, 15⟩) (.int 0 ⟨47, 16, 47, 17⟩) ⟨47, 13, 47, 18⟩] ⟨47, 4, 47, 9⟩ ⟨47, 12, 47, 19⟩ ⟨47, 4, 47, 19⟩,
   .asC 8 (.int 0 ⟨48, 11, 48, 12⟩) ⟨48, 4, 48, 8⟩ ⟨48, 4, 48, 12⟩,
   .forR 3 (.len (.loc 1 ⟨49, 24, 49, 29⟩) ⟨49, 20, 49, 23⟩ ⟨49, 20, 49, 30⟩) [.asC 4 (.sub (.loc 2 ⟨50, 15, 50, 17⟩) (.bin .Add (.loc 3 ⟨50, 18, 50, 20⟩) (.int 1 ⟨50, 23, 50, 24⟩) ⟨50, 18, 50, 24⟩) ⟨50, 15, 50, 25⟩) ⟨50, 8, 50, 12⟩ ⟨50, 8, 50, 25⟩,
   .ife (.cmp .Eq (.sub (.loc 1 ⟨51, 11, 51, 16⟩) (.loc 3 ⟨51, 17, 51, 19⟩) ⟨51, 11, 51, 20⟩) (.str (Str.ofString "j") [106] ⟨51, 24, 51, 27⟩) ⟨51, 11, 51, 27⟩) [.asC 4 (.sub (.cel 9 ⟨52, 19, 52, 22⟩) (.cel 8 ⟨52, 23, 52, 27⟩) ⟨52, 19, 52, 28⟩) ⟨52, 12, 52, 16⟩ ⟨52, 12, 52, 28⟩,
   .augC 8 (.int 1 ⟨53, 20, 53, 21⟩) ⟨53, 12, 53, 16⟩ ⟨53, 12, 53, 21⟩] [.ife (.cmp .Eq (.sub (.loc 1 ⟨54, 13, 54, 18⟩) (.loc 3 ⟨54, 19, 54, 21⟩) ⟨54, 13, 54, 22⟩) (.str (Str.ofString "J") [74] ⟨54, 26, 54, 29⟩) ⟨54, 13, 54, 29⟩) [.asC 4 (.sli (.cel 9 ⟨55, 19, 55, 22⟩) (.cel 8 ⟨55, 23, 55, 27⟩) (.bin .Add (.cel 8 ⟨55, 28, 55, 32⟩) (.len (.cel 4 ⟨55, 39, 55, 43⟩) ⟨55, 35, 55, 38⟩ ⟨55, 35, 55, 44⟩) ⟨55, 28, 55, 44⟩) ⟨55, 23, 55, 44⟩ ⟨55, 19, 55, 45⟩) ⟨55, 12, 55, 16⟩ ⟨55, 12, 55, 45⟩,
   .augC 8 (.len (.cel 4 ⟨56, 24, 56, 28⟩) ⟨56, 20, 56, 23⟩ ⟨56, 20, 56, 29⟩) ⟨56, 12, 56, 16⟩ ⟨56, 12, 56, 29⟩] [.ife (.cmp .Eq (.sub (.loc 1 ⟨57, 13, 57, 18⟩) (.loc 3 ⟨57, 19, 57, 21⟩) ⟨57, 13, 57, 22⟩) (.str (Str.ofString "P") [80] ⟨57, 26, 57, 29⟩) ⟨57, 13, 57, 29⟩) [.asC 4 (.cmprR (.tup [.sub (.sub (.fre 4 ⟨58, 21, 58, 25⟩) (.cvr 10 ⟨58, 26, 58, 27⟩) ⟨58, 21, 58, 28⟩) (.int 0 ⟨58, 29, 58, 30⟩) ⟨58, 21, 58, 31⟩, .sub (.fre 9 ⟨58, 33, 58, 36⟩) (.bin .Add (.fre 8 ⟨58, 37, 58, 41⟩) (.cvr 10 ⟨58, 44, 58, 45⟩) ⟨58, 37, 58, 45⟩) ⟨58, 33, 58, 46⟩] ⟨58, 20, 58, 47⟩) 10 ⟨58, 52, 58, 53⟩ (.len (.cel 4 ⟨58, 67, 58, 71⟩) ⟨58, 63, 58, 66⟩ ⟨58, 63, 58, 72⟩) ⟨58, 57, 58, 62⟩ ⟨58, 57, 58, 73⟩ { kind := .function, names := [(Str.ofString ".0", .local), (Str.ofString "k", .local), (Str.ofString "ats", .free), (Str.ofString "part", .free), (Str.ofString "used", .free)], isGenerator := false, isCoroutine := false, more := [] } ⟨58, 19, 58, 74⟩) ⟨58, 12, 58, 16⟩ ⟨58, 12, 58, 74⟩,
   .augC 8 (.len (.cel 4 ⟨59, 24, 59, 28⟩) ⟨59, 20, 59, 23⟩ ⟨59, 20, 59, 29⟩) ⟨59, 12, 59, 16⟩ ⟨59, 12, 59, 29⟩] [.ife (.cmp .Eq (.sub (.loc 1 ⟨60, 13, 60, 18⟩) (.loc 3 ⟨60, 19, 60, 21⟩) ⟨60, 13, 60, 22⟩) (.str (Str.ofString "D") [68] ⟨60, 26, 60, 29⟩) ⟨60, 13, 60, 29⟩) [.asC 4 (.tup [.sub (.cel 4 ⟨61, 20, 61, 24⟩) (.int 0 ⟨61, 25, 61, 26⟩) ⟨61, 20, 61, 27⟩, .sli (.cel 9 ⟨61, 29, 61, 32⟩) (.cel 8 ⟨61, 33, 61, 37⟩) (.bin .Add (.cel 8 ⟨61, 38, 61, 42⟩) (.len (.sub (.cel 4 ⟨61, 49, 61, 53⟩) (.int 1 ⟨61, 54, 61, 55⟩) ⟨61, 49, 61, 56⟩) ⟨61, 45, 61, 48⟩ ⟨61, 45, 61, 57⟩) ⟨61, 38, 61, 57⟩) ⟨61, 33, 61, 57⟩ ⟨61, 29, 61, 58⟩, .sub (.cel 4 ⟨61, 60, 61, 64⟩) (.int 2 ⟨61, 65, 61, 66⟩) ⟨61, 60, 61, 67⟩] ⟨61, 19, 61, 68⟩) ⟨61, 12, 61, 16⟩ ⟨61, 12, 61, 68⟩,
   .augC 8 (.len (.sub (.cel 4 ⟨62, 24, 62, 28⟩) (.int 1 ⟨62, 29, 62, 30⟩) ⟨62, 24, 62, 31⟩) ⟨62, 20, 62, 23⟩ ⟨62, 20, 62, 32⟩) ⟨62, 12, 62, 16⟩ ⟨62, 12, 62, 32⟩] [] ⟨60, 8, 62, 32⟩] ⟨57, 8, 62, 32⟩] ⟨54, 8, 62, 32⟩] ⟨51, 8, 62, 32⟩,
   .app 7 (.cel 4 ⟨63, 21, 63, 25⟩) ⟨63, 8, 63, 13⟩ ⟨63, 8, 63, 20⟩ ⟨63, 8, 63, 26⟩ ⟨63, 8, 63, 26⟩] ⟨49, 8, 49, 10⟩ ⟨49, 14, 49, 19⟩ ⟨49, 14, 49, 31⟩ ⟨49, 4, 63, 26⟩,
   .ret (.tuple (.loc 7 ⟨64, 17, 64, 22⟩) ⟨64, 11, 64, 16⟩ ⟨64, 11, 64, 23⟩) ⟨64, 4, 64, 23⟩]
noncomputable def f_with_jumps : FD := { ps := [2, 9], cs := [4, 8, 9], body := b_with_jumps }
noncomputable def b_read_part : List S :=
  [.ife (.or [.cmp .Eq (.loc 11 ⟨66, 7, 66, 11⟩) (.str (Str.ofString "r") [114] ⟨66, 15, 66, 18⟩) ⟨66, 7, 66, 18⟩, .cmp .Eq (.loc 11 ⟨66, 22, 66, 26⟩) (.str (Str.ofString "o") [111] ⟨66, 30, 66, 33⟩) ⟨66, 22, 66, 33⟩] ⟨66, 7, 66, 33⟩) [.ret (.get (.cel 12 ⟨67, 15, 67, 22⟩) (.loc 4 ⟨67, 27, 67, 31⟩) (.loc 4 ⟨67, 33, 67, 37⟩) ⟨67, 15, 67, 26⟩ ⟨67, 15, 67, 38⟩) ⟨67, 8, 67, 38⟩] [] ⟨66, 4, 67, 38⟩,
   .ife (.cmp .Eq (.loc 11 ⟨68, 7, 68, 11⟩) (.str (Str.ofString "R") [82] ⟨68, 15, 68, 18⟩) ⟨68, 7, 68, 18⟩) [.ret (.cmpr (.get (.fre 12 ⟨69, 16, 69, 23⟩) (.cvr 5 ⟨69, 28, 69, 31⟩) (.cvr 5 ⟨69, 33, 69, 36⟩) ⟨69, 16, 69, 27⟩ ⟨69, 16, 69, 37⟩) 5 ⟨69, 42, 69, 45⟩ (.loc 4 ⟨69, 49, 69, 53⟩) [] { kind := .function, names := [(Str.ofString ".0", .local), (Str.ofString "one", .local), (Str.ofString "mapping", .free)], isGenerator := false, isCoroutine := false, more := [] } ⟨69, 15, 69, 54⟩) ⟨69, 8, 69, 54⟩] [] ⟨68, 4, 69, 54⟩,
   .ife (.cmp .Eq (.loc 11 ⟨70, 7, 70, 11⟩) (.str (Str.ofString "A") [65] ⟨70, 15, 70, 18⟩) ⟨70, 7, 70, 18⟩) [.ret (.cmpr (.ife (.isT (.cvr 5 ⟨71, 34, 71, 37⟩) ⟨71, 23, 71, 33⟩ ⟨71, 39, 71, 44⟩ ⟨71, 23, 71, 45⟩) (.cvr 5 ⟨71, 16, 71, 19⟩) (.get (.fre 12 ⟨71, 51, 71, 58⟩) (.cvr 5 ⟨71, 63, 71, 66⟩) (.cvr 5 ⟨71, 68, 71, 71⟩) ⟨71, 51, 71, 62⟩ ⟨71, 51, 71, 72⟩) ⟨71, 16, 71, 72⟩) 5 ⟨71, 77, 71, 80⟩ (.loc 4 ⟨71, 84, 71, 88⟩) [] { kind := .function, names := [(Str.ofString ".0", .local), (Str.ofString "one", .local), (Str.ofString "isinstance", .globalImplicit), (Str.ofString "tuple", .globalImplicit), (Str.ofString "mapping", .free)], isGenerator := false, isCoroutine := false, more := [] } ⟨71, 15, 71, 89⟩) ⟨71, 8, 71, 89⟩] [] ⟨70, 4, 71, 89⟩,
   .ife (.cmp .Eq (.loc 11 ⟨72, 7, 72, 11⟩) (.str (Str.ofString "D") [68] ⟨72, 15, 72, 18⟩) ⟨72, 7, 72, 18⟩) [.ret (.tup [.cmpr (.get (.fre 12 ⟨73, 17, 73, 24⟩) (.cvr 5 ⟨73, 29, 73, 32⟩) (.cvr 5 ⟨73, 34, 73, 37⟩) ⟨73, 17, 73, 28⟩ ⟨73, 17, 73, 38⟩) 5 ⟨73, 43, 73, 46⟩ (.sub (.loc 4 ⟨73, 50, 73, 54⟩) (.int 0 ⟨73, 55, 73, 56⟩) ⟨73, 50, 73, 57⟩) [] { kind := .function, names := [(Str.ofString ".0", .local), (Str.ofString "one", .local), (Str.ofString "mapping", .free)], isGenerator := false, isCoroutine := false, more := [] } ⟨73, 16, 73, 58⟩, .sub (.loc 4 ⟨73, 60, 73, 64⟩) (.int 1 ⟨73, 65, 73, 66⟩) ⟨73, 60, 73, 67⟩, .sub (.loc 4 ⟨73, 69, 73, 73⟩) (.int 2 ⟨73, 74, 73, 75⟩) ⟨73, 69, 73, 76⟩] ⟨73, 15, 73, 77⟩) ⟨73, 8, 73, 77⟩] [] ⟨72, 4, 73, 77⟩,
   .ret (.loc 4 ⟨74, 11, 74, 15⟩) ⟨74, 4, 74, 15⟩]
noncomputable def f_read_part : FD := { ps := [11, 4, 12], cs := [12], body := b_read_part }
noncomputable def b_with_reads : List S :=
  [.asL 1 (.shp (.sub (.loc 2 ⟨76, 19, 76, 21⟩) (.int 0 ⟨76, 22, 76, 23⟩) ⟨76, 19, 76, 24⟩) ⟨76, 12, 76, 18⟩ ⟨76, 12, 76, 25⟩) ⟨76, 4, 76, 9⟩ ⟨76, 4, 76, 25⟩,
   .own 7 [.sub (.loc 2 ⟨77, 13, 77, 15⟩) (.int 0 ⟨77, 16, 77, 17⟩) ⟨77, 13, 77, 18⟩] ⟨77, 4, 77, 9⟩ ⟨77, 12, 77, 19⟩ ⟨77, 4, 77, 19⟩,
   .forR 3 (.len (.loc 1 ⟨78, 24, 78, 29⟩) ⟨78, 20, 78, 23⟩ ⟨78, 20, 78, 30⟩) [.app 7 (.call 5 [.sub (.loc 1 ⟨79, 31, 79, 36⟩) (.loc 3 ⟨79, 37, 79, 39⟩) ⟨79, 31, 79, 40⟩, .sub (.loc 2 ⟨79, 42, 79, 44⟩) (.bin .Add (.loc 3 ⟨79, 45, 79, 47⟩) (.int 1 ⟨79, 50, 79, 51⟩) ⟨79, 45, 79, 51⟩) ⟨79, 42, 79, 52⟩, .loc 12 ⟨79, 54, 79, 61⟩] ⟨79, 21, 79, 30⟩ ⟨79, 21, 79, 62⟩) ⟨79, 8, 79, 13⟩ ⟨79, 8, 79, 20⟩ ⟨79, 8, 79, 63⟩ ⟨79, 8, 79, 63⟩] ⟨78, 8, 78, 10⟩ ⟨78, 14, 78, 19⟩ ⟨78, 14, 78, 31⟩ ⟨78, 4, 79, 63⟩,
   .ret (.tuple (.loc 7 ⟨80, 17, 80, 22⟩) ⟨80, 11, 80, 16⟩ ⟨80, 11, 80, 23⟩) ⟨80, 4, 80, 23⟩]
noncomputable def f_with_reads : FD := { ps := [2, 12], cs := [], body := b_with_reads }
noncomputable def b_with_write : List S :=
  [.ife (.cmp .Lt (.call 1 [.loc 2 ⟨82, 17, 82, 19⟩] ⟨82, 7, 82, 16⟩ ⟨82, 7, 82, 20⟩) (.int 0 ⟨82, 23, 82, 24⟩) ⟨82, 7, 82, 24⟩) [.ret (.loc 2 ⟨83, 15, 83, 17⟩) ⟨83, 8, 83, 17⟩] [] ⟨82, 4, 83, 17⟩,
   .ret (.bin .Add (.tup [.sub (.loc 2 ⟨84, 12, 84, 14⟩) (.int 0 ⟨84, 15, 84, 16⟩) ⟨84, 12, 84, 17⟩, .loc 13 ⟨84, 19, 84, 27⟩] ⟨84, 11, 84, 28⟩) (.sliD (.loc 2 ⟨84, 31, 84, 33⟩) (.int 2 ⟨84, 34, 84, 35⟩) ⟨84, 34, 84, 36⟩ ⟨84, 31, 84, 37⟩) ⟨84, 11, 84, 37⟩) ⟨84, 4, 84, 37⟩]
noncomputable def f_with_write : FD := { ps := [2, 13], cs := [], body := b_with_write }
noncomputable def b_with_registers : List S :=
  [.asL 14 (.call 6 [.loc 2 ⟨86, 23, 86, 25⟩, .loc 12 ⟨86, 27, 86, 34⟩] ⟨86, 12, 86, 22⟩ ⟨86, 12, 86, 35⟩) ⟨86, 4, 86, 9⟩ ⟨86, 4, 86, 35⟩,
   .asL 13 (.call 1 [.loc 2 ⟨87, 25, 87, 27⟩] ⟨87, 15, 87, 24⟩ ⟨87, 15, 87, 28⟩) ⟨87, 4, 87, 12⟩ ⟨87, 4, 87, 28⟩,
   .ret (.call 7 [.loc 14 ⟨88, 22, 88, 27⟩, .get (.loc 12 ⟨88, 29, 88, 36⟩) (.loc 13 ⟨88, 41, 88, 49⟩) (.loc 13 ⟨88, 51, 88, 59⟩) ⟨88, 29, 88, 40⟩ ⟨88, 29, 88, 60⟩] ⟨88, 11, 88, 21⟩ ⟨88, 11, 88, 61⟩) ⟨88, 4, 88, 61⟩]
noncomputable def f_with_registers : FD := { ps := [2, 12], cs := [], body := b_with_registers }
noncomputable def b_show_part : List S :=
  [.ife (.or [.cmp .Eq (.loc 11 ⟨90, 7, 90, 11⟩) (.str (Str.ofString "w") [119] ⟨90, 15, 90, 18⟩) ⟨90, 7, 90, 18⟩, .cmp .Eq (.loc 11 ⟨90, 22, 90, 26⟩) (.str (Str.ofString "r") [114] ⟨90, 30, 90, 33⟩) ⟨90, 22, 90, 33⟩] ⟨90, 7, 90, 33⟩) [.ret (.bin .Add (.str (Str.ofString "r") [114] ⟨91, 15, 91, 18⟩) (.strf (.loc 4 ⟨91, 25, 91, 29⟩) ⟨91, 21, 91, 24⟩ ⟨91, 21, 91, 30⟩) ⟨91, 15, 91, 30⟩) ⟨91, 8, 91, 30⟩] [] ⟨90, 4, 91, 30⟩,
   .ife (.or [.cmp .Eq (.loc 11 ⟨92, 7, 92, 11⟩) (.str (Str.ofString "v") [118] ⟨92, 15, 92, 18⟩) ⟨92, 7, 92, 18⟩, .cmp .Eq (.loc 11 ⟨92, 22, 92, 26⟩) (.str (Str.ofString "o") [111] ⟨92, 30, 92, 33⟩) ⟨92, 22, 92, 33⟩] ⟨92, 7, 92, 33⟩) [.ret (.ife (.cmp .Lt (.loc 4 ⟨93, 22, 93, 26⟩) (.int 0 ⟨93, 29, 93, 30⟩) ⟨93, 22, 93, 30⟩) (.str (Str.ofString "-") [45] ⟨93, 15, 93, 18⟩) (.bin .Add (.str (Str.ofString "r") [114] ⟨93, 36, 93, 39⟩) (.strf (.loc 4 ⟨93, 46, 93, 50⟩) ⟨93, 42, 93, 45⟩ ⟨93, 42, 93, 51⟩) ⟨93, 36, 93, 51⟩) ⟨93, 15, 93, 51⟩) ⟨93, 8, 93, 51⟩] [] ⟨92, 4, 93, 51⟩,
   .ife (.cmp .Eq (.loc 11 ⟨94, 7, 94, 11⟩) (.str (Str.ofString "R") [82] ⟨94, 15, 94, 18⟩) ⟨94, 7, 94, 18⟩) [.ret (.bin .Add (.bin .Add (.str (Str.ofString "(") [40] ⟨95, 15, 95, 18⟩) (.join (.str (Str.ofString " ") [32] ⟨95, 21, 95, 24⟩) (.cmpr (.bin .Add (.str (Str.ofString "r") [114] ⟨95, 31, 95, 34⟩) (.strf (.cvr 5 ⟨95, 41, 95, 44⟩) ⟨95, 37, 95, 40⟩ ⟨95, 37, 95, 45⟩) ⟨95, 31, 95, 45⟩) 5 ⟨95, 50, 95, 53⟩ (.loc 4 ⟨95, 57, 95, 61⟩) [] { kind := .function, names := [(Str.ofString ".0", .local), (Str.ofString "one", .local), (Str.ofString "str", .globalImplicit)], isGenerator := false, isCoroutine := false, more := [] } ⟨95, 30, 95, 62⟩) ⟨95, 21, 95, 29⟩ ⟨95, 21, 95, 63⟩) ⟨95, 15, 95, 63⟩) (.str (Str.ofString ")") [41] ⟨95, 66, 95, 69⟩) ⟨95, 15, 95, 69⟩) ⟨95, 8, 95, 69⟩] [] ⟨94, 4, 95, 69⟩,
   .ife (.cmp .Eq (.loc 11 ⟨96, 7, 96, 11⟩) (.str (Str.ofString "A") [65] ⟨96, 15, 96, 18⟩) ⟨96, 7, 96, 18⟩) [.ret (.bin .Add (.bin .Add (.str (Str.ofString "(") [40] ⟨97, 15, 97, 18⟩) (.join (.str (Str.ofString " ") [32] ⟨97, 21, 97, 24⟩) (.cmpr (.ife (.isT (.cvr 5 ⟨97, 52, 97, 55⟩) ⟨97, 41, 97, 51⟩ ⟨97, 57, 97, 62⟩ ⟨97, 41, 97, 63⟩) (.sub (.cvr 5 ⟨97, 31, 97, 34⟩) (.int 1 ⟨97, 35, 97, 36⟩) ⟨97, 31, 97, 37⟩) (.bin .Add (.str (Str.ofString "r") [114] ⟨97, 69, 97, 72⟩) (.strf (.cvr 5 ⟨97, 79, 97, 82⟩) ⟨97, 75, 97, 78⟩ ⟨97, 75, 97, 83⟩) ⟨97, 69, 97, 83⟩) ⟨97, 31, 97, 83⟩) 5 ⟨97, 88, 97, 91⟩ (.loc 4 ⟨97, 95, 97, 99⟩) [] { kind := .function, names := [(Str.ofString ".0", .local), (Str.ofString "one", .local), (Str.ofString "isinstance", .globalImplicit), (Str.ofString "tuple", .globalImplicit), (Str.ofString "str", .globalImplicit)], isGenerator := false, isCoroutine := false, more := [] } ⟨97, 30, 97, 100⟩) ⟨97, 21, 97, 29⟩ ⟨97, 21, 97, 101⟩) ⟨97, 15, 97, 101⟩) (.str (Str.ofString ")") [41] ⟨97, 104, 97, 107⟩) ⟨97, 15, 97, 107⟩) ⟨97, 8, 97, 107⟩] [] ⟨96, 4, 97, 107⟩,
   .ife (.cmp .Eq (.loc 11 ⟨98, 7, 98, 11⟩) (.str (Str.ofString "j") [106] ⟨98, 15, 98, 18⟩) ⟨98, 7, 98, 18⟩) [.ret (.bin .Add (.str (Str.ofString "@") [64] ⟨99, 15, 99, 18⟩) (.strf (.loc 4 ⟨99, 25, 99, 29⟩) ⟨99, 21, 99, 24⟩ ⟨99, 21, 99, 30⟩) ⟨99, 15, 99, 30⟩) ⟨99, 8, 99, 30⟩] [] ⟨98, 4, 99, 30⟩,
   .ife (.cmp .Eq (.loc 11 ⟨100, 7, 100, 11⟩) (.str (Str.ofString "J") [74] ⟨100, 15, 100, 18⟩) ⟨100, 7, 100, 18⟩) [.ret (.bin .Add (.bin .Add (.str (Str.ofString "(") [40] ⟨101, 15, 101, 18⟩) (.join (.str (Str.ofString " ") [32] ⟨101, 21, 101, 24⟩) (.cmpr (.bin .Add (.str (Str.ofString "@") [64] ⟨101, 31, 101, 34⟩) (.strf (.cvr 5 ⟨101, 41, 101, 44⟩) ⟨101, 37, 101, 40⟩ ⟨101, 37, 101, 45⟩) ⟨101, 31, 101, 45⟩) 5 ⟨101, 50, 101, 53⟩ (.loc 4 ⟨101, 57, 101, 61⟩) [] { kind := .function, names := [(Str.ofString ".0", .local), (Str.ofString "one", .local), (Str.ofString "str", .globalImplicit)], isGenerator := false, isCoroutine := false, more := [] } ⟨101, 30, 101, 62⟩) ⟨101, 21, 101, 29⟩ ⟨101, 21, 101, 63⟩) ⟨101, 15, 101, 63⟩) (.str (Str.ofString ")") [41] ⟨101, 66, 101, 69⟩) ⟨101, 15, 101, 69⟩) ⟨101, 8, 101, 69⟩] [] ⟨100, 4, 101, 69⟩,
   .ife (.cmp .Eq (.loc 11 ⟨102, 7, 102, 11⟩) (.str (Str.ofString "P") [80] ⟨102, 15, 102, 18⟩) ⟨102, 7, 102, 18⟩) [.ret (.bin .Add (.bin .Add (.str (Str.ofString "(") [40] ⟨103, 15, 103, 18⟩) (.join (.str (Str.ofString " ") [32] ⟨103, 21, 103, 24⟩) (.cmpr (.bin .Add (.bin .Add (.strf (.sub (.cvr 5 ⟨103, 35, 103, 38⟩) (.int 0 ⟨103, 39, 103, 40⟩) ⟨103, 35, 103, 41⟩) ⟨103, 31, 103, 34⟩ ⟨103, 31, 103, 42⟩) (.str (Str.ofString "@") [64] ⟨103, 45, 103, 48⟩) ⟨103, 31, 103, 48⟩) (.strf (.sub (.cvr 5 ⟨103, 55, 103, 58⟩) (.int 1 ⟨103, 59, 103, 60⟩) ⟨103, 55, 103, 61⟩) ⟨103, 51, 103, 54⟩ ⟨103, 51, 103, 62⟩) ⟨103, 31, 103, 62⟩) 5 ⟨103, 67, 103, 70⟩ (.loc 4 ⟨103, 74, 103, 78⟩) [] { kind := .function, names := [(Str.ofString ".0", .local), (Str.ofString "one", .local), (Str.ofString "str", .globalImplicit)], isGenerator := false, isCoroutine := false, more := [] } ⟨103, 30, 103, 79⟩) ⟨103, 21, 103, 29⟩ ⟨103, 21, 103, 80⟩) ⟨103, 15, 103, 80⟩) (.str (Str.ofString ")") [41] ⟨103, 83, 103, 86⟩) ⟨103, 15, 103, 86⟩) ⟨103, 8, 103, 86⟩] [] ⟨102, 4, 103, 86⟩,
   .ife (.cmp .Eq (.loc 11 ⟨104, 7, 104, 11⟩) (.str (Str.ofString "D") [68] ⟨104, 15, 104, 18⟩) ⟨104, 7, 104, 18⟩) [.ret (.bin .Add (.bin .Add (.bin .Add (.bin .Add (.call 9 [.str (Str.ofString "R") [82] ⟨105, 25, 105, 28⟩, .sub (.loc 4 ⟨105, 30, 105, 34⟩) (.int 0 ⟨105, 35, 105, 36⟩) ⟨105, 30, 105, 37⟩] ⟨105, 15, 105, 24⟩ ⟨105, 15, 105, 38⟩) (.str (Str.ofString " ") [32] ⟨105, 41, 105, 44⟩) ⟨105, 15, 105, 44⟩) (.call 9 [.str (Str.ofString "J") [74] ⟨105, 57, 105, 60⟩, .sub (.loc 4 ⟨105, 62, 105, 66⟩) (.int 1 ⟨105, 67, 105, 68⟩) ⟨105, 62, 105, 69⟩] ⟨105, 47, 105, 56⟩ ⟨105, 47, 105, 70⟩) ⟨105, 15, 105, 70⟩) (.str (Str.ofString " ") [32] ⟨105, 73, 105, 76⟩) ⟨105, 15, 105, 76⟩) (.strf (.sub (.loc 4 ⟨105, 83, 105, 87⟩) (.int 2 ⟨105, 88, 105, 89⟩) ⟨105, 83, 105, 90⟩) ⟨105, 79, 105, 82⟩ ⟨105, 79, 105, 91⟩) ⟨105, 15, 105, 91⟩) ⟨105, 8, 105, 91⟩] [] ⟨104, 4, 105, 91⟩,
   .ret (.strf (.loc 4 ⟨106, 15, 106, 19⟩) ⟨106, 11, 106, 14⟩ ⟨106, 11, 106, 20⟩) ⟨106, 4, 106, 20⟩]
noncomputable def f_show_part : FD := { ps := [11, 4], cs := [], body := b_show_part }
noncomputable def b_show_op : List S :=
  [.asL 1 (.shp (.sub (.loc 2 ⟨108, 19, 108, 21⟩) (.int 0 ⟨108, 22, 108, 23⟩) ⟨108, 19, 108, 24⟩) ⟨108, 12, 108, 18⟩ ⟨108, 12, 108, 25⟩) ⟨108, 4, 108, 9⟩ ⟨108, 4, 108, 25⟩,
   .own 15 [.sub (.loc 2 ⟨109, 13, 109, 15⟩) (.int 0 ⟨109, 16, 109, 17⟩) ⟨109, 13, 109, 18⟩] ⟨109, 4, 109, 9⟩ ⟨109, 12, 109, 19⟩ ⟨109, 4, 109, 19⟩,
   .forR 3 (.len (.loc 1 ⟨110, 24, 110, 29⟩) ⟨110, 20, 110, 23⟩ ⟨110, 20, 110, 30⟩) [.app 15 (.call 9 [.sub (.loc 1 ⟨111, 31, 111, 36⟩) (.loc 3 ⟨111, 37, 111, 39⟩) ⟨111, 31, 111, 40⟩, .sub (.loc 2 ⟨111, 42, 111, 44⟩) (.bin .Add (.loc 3 ⟨111, 45, 111, 47⟩) (.int 1 ⟨111, 50, 111, 51⟩) ⟨111, 45, 111, 51⟩) ⟨111, 42, 111, 52⟩] ⟨111, 21, 111, 30⟩ ⟨111, 21, 111, 53⟩) ⟨111, 8, 111, 13⟩ ⟨111, 8, 111, 20⟩ ⟨111, 8, 111, 54⟩ ⟨111, 8, 111, 54⟩] ⟨110, 8, 110, 10⟩ ⟨110, 14, 110, 19⟩ ⟨110, 14, 110, 31⟩ ⟨110, 4, 111, 54⟩,
   .ret (.join (.str (Str.ofString " ") [32] ⟨112, 11, 112, 14⟩) (.loc 15 ⟨112, 20, 112, 25⟩) ⟨112, 11, 112, 19⟩ ⟨112, 11, 112, 26⟩) ⟨112, 4, 112, 26⟩]
noncomputable def f_show_op : FD := { ps := [2], cs := [], body := b_show_op }
noncomputable def b_law_words : List S :=
  [.ret (.lst [.str (Str.ofString "set") [115, 101, 116] ⟨122, 12, 122, 17⟩, .str (Str.ofString "move") [109, 111, 118, 101] ⟨122, 19, 122, 25⟩, .str (Str.ofString "bin") [98, 105, 110] ⟨122, 27, 122, 32⟩, .str (Str.ofString "cmp") [99, 109, 112] ⟨122, 34, 122, 39⟩, .str (Str.ofString "un") [117, 110] ⟨122, 41, 122, 45⟩, .str (Str.ofString "conv") [99, 111, 110, 118] ⟨122, 47, 122, 53⟩, .str (Str.ofString "cat") [99, 97, 116] ⟨122, 55, 122, 60⟩, .str (Str.ofString "addr") [97, 100, 100, 114] ⟨122, 62, 122, 68⟩, .str (Str.ofString "cut") [99, 117, 116] ⟨122, 70, 122, 75⟩, .str (Str.ofString "elem") [101, 108, 101, 109] ⟨122, 77, 122, 83⟩, .str (Str.ofString "load") [108, 111, 97, 100] ⟨122, 85, 122, 91⟩, .str (Str.ofString "store") [115, 116, 111, 114, 101] ⟨122, 93, 122, 100⟩, .str (Str.ofString "temp") [116, 101, 109, 112] ⟨122, 102, 122, 108⟩, .str (Str.ofString "intr") [105, 110, 116, 114] ⟨122, 110, 122, 116⟩, .str (Str.ofString "call") [99, 97, 108, 108] ⟨122, 118, 122, 124⟩, .str (Str.ofString "count") [99, 111, 117, 110, 116] ⟨122, 126, 122, 133⟩, .str (Str.ofString "jump") [106, 117, 109, 112] ⟨122, 135, 122, 141⟩, .str (Str.ofString "true") [116, 114, 117, 101] ⟨122, 143, 122, 149⟩, .str (Str.ofString "false") [102, 97, 108, 115, 101] ⟨122, 151, 122, 158⟩, .str (Str.ofString "sign") [115, 105, 103, 110] ⟨122, 160, 122, 166⟩, .str (Str.ofString "switch") [115, 119, 105, 116, 99, 104] ⟨122, 168, 122, 176⟩, .str (Str.ofString "setlabel") [115, 101, 116, 108, 97, 98, 101, 108] ⟨122, 178, 122, 188⟩, .str (Str.ofString "agoto") [97, 103, 111, 116, 111] ⟨122, 190, 122, 197⟩, .str (Str.ofString "return") [114, 101, 116, 117, 114, 110] ⟨122, 199, 122, 207⟩, .str (Str.ofString "stop") [115, 116, 111, 112] ⟨122, 209, 122, 215⟩, .str (Str.ofString "pause") [112, 97, 117, 115, 101] ⟨122, 217, 122, 224⟩, .str (Str.ofString "io") [105, 111] ⟨122, 226, 122, 230⟩, .str (Str.ofString "nop") [110, 111, 112] ⟨122, 232, 122, 237⟩, .str (Str.ofString "length") [108, 101, 110, 103, 116, 104] ⟨122, 239, 122, 247⟩, .str (Str.ofString "keep") [107, 101, 101, 112] ⟨122, 249, 122, 255⟩, .str (Str.ofString "fetch") [102, 101, 116, 99, 104] ⟨122, 257, 122, 264⟩] ⟨122, 11, 122, 265⟩) ⟨122, 4, 122, 265⟩]
noncomputable def f_law_words : FD := { ps := [], cs := [], body := b_law_words }
noncomputable def b_law_say : List S :=
  [.ret (.join (.str (Str.ofString "") [] ⟨129, 11, 129, 13⟩) (.cmpr (.strf (.cvr 4 ⟨129, 24, 129, 28⟩) ⟨129, 20, 129, 23⟩ ⟨129, 20, 129, 29⟩) 4 ⟨129, 34, 129, 38⟩ (.loc 7 ⟨129, 42, 129, 47⟩) [] { kind := .function, names := [(Str.ofString ".0", .local), (Str.ofString "part", .local), (Str.ofString "str", .globalImplicit)], isGenerator := false, isCoroutine := false, more := [] } ⟨129, 19, 129, 48⟩) ⟨129, 11, 129, 18⟩ ⟨129, 11, 129, 49⟩) ⟨129, 4, 129, 49⟩]
noncomputable def f_law_say : FD := { ps := [7], cs := [], body := b_law_say }
noncomputable def b_law_two : List S :=
  [.ife (.or [.cmp .Eq (.loc 16 ⟨131, 7, 131, 11⟩) (.str (Str.ofString "bin") [98, 105, 110] ⟨131, 15, 131, 20⟩) ⟨131, 7, 131, 20⟩, .cmp .Eq (.loc 16 ⟨131, 24, 131, 28⟩) (.str (Str.ofString "cmp") [99, 109, 112] ⟨131, 32, 131, 37⟩) ⟨131, 24, 131, 37⟩] ⟨131, 7, 131, 37⟩) [.asL 17 (.ife (.cmp .Eq (.loc 16 ⟨132, 23, 132, 27⟩) (.str (Str.ofString "cmp") [99, 109, 112] ⟨132, 31, 132, 36⟩) ⟨132, 23, 132, 36⟩) (.str (Str.ofString "lt") [108, 116] ⟨132, 15, 132, 19⟩) (.str (Str.ofString "add") [97, 100, 100] ⟨132, 42, 132, 47⟩) ⟨132, 15, 132, 47⟩) ⟨132, 8, 132, 12⟩ ⟨132, 8, 132, 47⟩,
   .ret (.tup [.tup [.loc 16 ⟨133, 17, 133, 21⟩, .sub (.loc 18 ⟨133, 23, 133, 24⟩) (.int 0 ⟨133, 25, 133, 26⟩) ⟨133, 23, 133, 27⟩, .loc 17 ⟨133, 29, 133, 33⟩, .int 0 ⟨133, 35, 133, 36⟩, .sub (.loc 18 ⟨133, 38, 133, 39⟩) (.int 1 ⟨133, 40, 133, 41⟩) ⟨133, 38, 133, 42⟩, .sub (.loc 18 ⟨133, 44, 133, 45⟩) (.int 2 ⟨133, 46, 133, 47⟩) ⟨133, 44, 133, 48⟩] ⟨133, 16, 133, 49⟩, .sli (.loc 18 ⟨133, 51, 133, 52⟩) (.int 1 ⟨133, 53, 133, 54⟩) (.int 3 ⟨133, 55, 133, 56⟩) ⟨133, 53, 133, 56⟩ ⟨133, 51, 133, 57⟩, .call 14 [.lst [.loc 16 ⟨133, 69, 133, 73⟩, .str (Str.ofString " r") [32, 114] ⟨133, 75, 133, 79⟩, .sub (.loc 18 ⟨133, 81, 133, 82⟩) (.int 0 ⟨133, 83, 133, 84⟩) ⟨133, 81, 133, 85⟩, .str (Str.ofString " ") [32] ⟨133, 87, 133, 90⟩, .loc 17 ⟨133, 92, 133, 96⟩, .str (Str.ofString " 0 r") [32, 48, 32, 114] ⟨133, 98, 133, 104⟩, .sub (.loc 18 ⟨133, 106, 133, 107⟩) (.int 1 ⟨133, 108, 133, 109⟩) ⟨133, 106, 133, 110⟩, .str (Str.ofString " r") [32, 114] ⟨133, 112, 133, 116⟩, .sub (.loc 18 ⟨133, 118, 133, 119⟩) (.int 2 ⟨133, 120, 133, 121⟩) ⟨133, 118, 133, 122⟩] ⟨133, 68, 133, 123⟩] ⟨133, 59, 133, 67⟩ ⟨133, 59, 133, 124⟩] ⟨133, 15, 133, 125⟩) ⟨133, 8, 133, 125⟩] [] ⟨131, 4, 133, 125⟩,
   .ife (.cmp .Eq (.loc 16 ⟨134, 7, 134, 11⟩) (.str (Str.ofString "un") [117, 110] ⟨134, 15, 134, 19⟩) ⟨134, 7, 134, 19⟩) [.ret (.tup [.tup [.str (Str.ofString "un") [117, 110] ⟨135, 17, 135, 21⟩, .sub (.loc 18 ⟨135, 23, 135, 24⟩) (.int 0 ⟨135, 25, 135, 26⟩) ⟨135, 23, 135, 27⟩, .str (Str.ofString "neg") [110, 101, 103] ⟨135, 29, 135, 34⟩, .int 1 ⟨135, 36, 135, 37⟩, .sub (.loc 18 ⟨135, 39, 135, 40⟩) (.int 1 ⟨135, 41, 135, 42⟩) ⟨135, 39, 135, 43⟩] ⟨135, 16, 135, 44⟩, .sli (.loc 18 ⟨135, 46, 135, 47⟩) (.int 1 ⟨135, 48, 135, 49⟩) (.int 2 ⟨135, 50, 135, 51⟩) ⟨135, 48, 135, 51⟩ ⟨135, 46, 135, 52⟩, .call 14 [.lst [.str (Str.ofString "un r") [117, 110, 32, 114] ⟨135, 64, 135, 70⟩, .sub (.loc 18 ⟨135, 72, 135, 73⟩) (.int 0 ⟨135, 74, 135, 75⟩) ⟨135, 72, 135, 76⟩, .str (Str.ofString " neg 1 r") [32, 110, 101, 103, 32, 49, 32, 114] ⟨135, 78, 135, 88⟩, .sub (.loc 18 ⟨135, 90, 135, 91⟩) (.int 1 ⟨135, 92, 135, 93⟩) ⟨135, 90, 135, 94⟩] ⟨135, 63, 135, 95⟩] ⟨135, 54, 135, 62⟩ ⟨135, 54, 135, 96⟩] ⟨135, 15, 135, 97⟩) ⟨135, 8, 135, 97⟩] [] ⟨134, 4, 135, 97⟩,
   .ife (.cmp .Eq (.loc 16 ⟨136, 7, 136, 11⟩) (.str (Str.ofString "conv") [99, 111, 110, 118] ⟨136, 15, 136, 21⟩) ⟨136, 7, 136, 21⟩) [.ret (.tup [.tup [.str (Str.ofString "conv") [99, 111, 110, 118] ⟨137, 17, 137, 23⟩, .sub (.loc 18 ⟨137, 25, 137, 26⟩) (.int 0 ⟨137, 27, 137, 28⟩) ⟨137, 25, 137, 29⟩, .int 1 ⟨137, 31, 137, 32⟩, .int 0 ⟨137, 34, 137, 35⟩, .sub (.loc 18 ⟨137, 37, 137, 38⟩) (.int 1 ⟨137, 39, 137, 40⟩) ⟨137, 37, 137, 41⟩] ⟨137, 16, 137, 42⟩, .sli (.loc 18 ⟨137, 44, 137, 45⟩) (.int 1 ⟨137, 46, 137, 47⟩) (.int 2 ⟨137, 48, 137, 49⟩) ⟨137, 46, 137, 49⟩ ⟨137, 44, 137, 50⟩, .call 14 [.lst [.str (Str.ofString "conv r") [99, 111, 110, 118, 32, 114] ⟨137, 62, 137, 70⟩, .sub (.loc 18 ⟨137, 72, 137, 73⟩) (.int 0 ⟨137, 74, 137, 75⟩) ⟨137, 72, 137, 76⟩, .str (Str.ofString " 1 0 r") [32, 49, 32, 48, 32, 114] ⟨137, 78, 137, 86⟩, .sub (.loc 18 ⟨137, 88, 137, 89⟩) (.int 1 ⟨137, 90, 137, 91⟩) ⟨137, 88, 137, 92⟩] ⟨137, 61, 137, 93⟩] ⟨137, 52, 137, 60⟩ ⟨137, 52, 137, 94⟩] ⟨137, 15, 137, 95⟩) ⟨137, 8, 137, 95⟩] [] ⟨136, 4, 137, 95⟩,
   .ife (.cmp .Eq (.loc 16 ⟨138, 7, 138, 11⟩) (.str (Str.ofString "cat") [99, 97, 116] ⟨138, 15, 138, 20⟩) ⟨138, 7, 138, 20⟩) [.ret (.tup [.tup [.str (Str.ofString "cat") [99, 97, 116] ⟨139, 17, 139, 22⟩, .sub (.loc 18 ⟨139, 24, 139, 25⟩) (.int 0 ⟨139, 26, 139, 27⟩) ⟨139, 24, 139, 28⟩, .sub (.loc 18 ⟨139, 30, 139, 31⟩) (.int 1 ⟨139, 32, 139, 33⟩) ⟨139, 30, 139, 34⟩, .sub (.loc 18 ⟨139, 36, 139, 37⟩) (.int 2 ⟨139, 38, 139, 39⟩) ⟨139, 36, 139, 40⟩] ⟨139, 16, 139, 41⟩, .sli (.loc 18 ⟨139, 43, 139, 44⟩) (.int 1 ⟨139, 45, 139, 46⟩) (.int 3 ⟨139, 47, 139, 48⟩) ⟨139, 45, 139, 48⟩ ⟨139, 43, 139, 49⟩, .call 14 [.lst [.str (Str.ofString "cat r") [99, 97, 116, 32, 114] ⟨139, 61, 139, 68⟩, .sub (.loc 18 ⟨139, 70, 139, 71⟩) (.int 0 ⟨139, 72, 139, 73⟩) ⟨139, 70, 139, 74⟩, .str (Str.ofString " r") [32, 114] ⟨139, 76, 139, 80⟩, .sub (.loc 18 ⟨139, 82, 139, 83⟩) (.int 1 ⟨139, 84, 139, 85⟩) ⟨139, 82, 139, 86⟩, .str (Str.ofString " r") [32, 114] ⟨139, 88, 139, 92⟩, .sub (.loc 18 ⟨139, 94, 139, 95⟩) (.int 2 ⟨139, 96, 139, 97⟩) ⟨139, 94, 139, 98⟩] ⟨139, 60, 139, 99⟩] ⟨139, 51, 139, 59⟩ ⟨139, 51, 139, 100⟩] ⟨139, 15, 139, 101⟩) ⟨139, 8, 139, 101⟩] [] ⟨138, 4, 139, 101⟩,
   .ife (.cmp .Eq (.loc 16 ⟨140, 7, 140, 11⟩) (.str (Str.ofString "elem") [101, 108, 101, 109] ⟨140, 15, 140, 21⟩) ⟨140, 7, 140, 21⟩) [.asL 19 (.sli (.loc 18 ⟨141, 15, 141, 16⟩) (.int 2 ⟨141, 17, 141, 18⟩) (.bin .Add (.int 2 ⟨141, 19, 141, 20⟩) (.bin .Mod (.loc 20 ⟨141, 23, 141, 24⟩) (.int 3 ⟨141, 27, 141, 28⟩) ⟨141, 23, 141, 28⟩) ⟨141, 19, 141, 28⟩) ⟨141, 17, 141, 28⟩ ⟨141, 15, 141, 29⟩) ⟨141, 8, 141, 12⟩ ⟨141, 8, 141, 29⟩,
   .ret (.tup [.tup [.str (Str.ofString "elem") [101, 108, 101, 109] ⟨142, 17, 142, 23⟩, .sub (.loc 18 ⟨142, 25, 142, 26⟩) (.int 0 ⟨142, 27, 142, 28⟩) ⟨142, 25, 142, 29⟩, .sub (.loc 18 ⟨142, 31, 142, 32⟩) (.int 1 ⟨142, 33, 142, 34⟩) ⟨142, 31, 142, 35⟩, .loc 19 ⟨142, 37, 142, 41⟩] ⟨142, 16, 142, 42⟩, .bin .Add (.lst [.sub (.loc 18 ⟨142, 45, 142, 46⟩) (.int 1 ⟨142, 47, 142, 48⟩) ⟨142, 45, 142, 49⟩] ⟨142, 44, 142, 50⟩) (.loc 19 ⟨142, 53, 142, 57⟩) ⟨142, 44, 142, 57⟩, .bin .Add (.call 14 [.lst [.str (Str.ofString "elem r") [101, 108, 101, 109, 32, 114] ⟨142, 69, 142, 77⟩, .sub (.loc 18 ⟨142, 79, 142, 80⟩) (.int 0 ⟨142, 81, 142, 82⟩) ⟨142, 79, 142, 83⟩, .str (Str.ofString " r") [32, 114] ⟨142, 85, 142, 89⟩, .sub (.loc 18 ⟨142, 91, 142, 92⟩) (.int 1 ⟨142, 93, 142, 94⟩) ⟨142, 91, 142, 95⟩, .str (Str.ofString " ") [32] ⟨142, 97, 142, 100⟩] ⟨142, 68, 142, 101⟩] ⟨142, 59, 142, 67⟩ ⟨142, 59, 142, 102⟩) (.call 16 [.loc 19 ⟨142, 115, 142, 119⟩, .str (Str.ofString "r") [114] ⟨142, 121, 142, 124⟩] ⟨142, 105, 142, 114⟩ ⟨142, 105, 142, 125⟩) ⟨142, 59, 142, 125⟩] ⟨142, 15, 142, 126⟩) ⟨142, 8, 142, 126⟩] [] ⟨140, 4, 142, 126⟩,
   .ife (.cmp .Eq (.loc 16 ⟨143, 7, 143, 11⟩) (.str (Str.ofString "cut") [99, 117, 116] ⟨143, 15, 143, 20⟩) ⟨143, 7, 143, 20⟩) [.asL 21 (.ife (.cmp .Eq (.bin .Mod (.loc 20 ⟨144, 22, 144, 23⟩) (.int 2 ⟨144, 26, 144, 27⟩) ⟨144, 22, 144, 27⟩) (.int 1 ⟨144, 31, 144, 32⟩) ⟨144, 22, 144, 32⟩) (.sub (.loc 18 ⟨144, 14, 144, 15⟩) (.int 2 ⟨144, 16, 144, 17⟩) ⟨144, 14, 144, 18⟩) (.neg 1 ⟨144, 39, 144, 40⟩ ⟨144, 38, 144, 40⟩) ⟨144, 14, 144, 40⟩) ⟨144, 8, 144, 11⟩ ⟨144, 8, 144, 40⟩,
   .asL 22 (.ife (.cmp .Eq (.bin .Mod (.bin .FloorDiv (.loc 20 ⟨145, 23, 145, 24⟩) (.int 2 ⟨145, 28, 145, 29⟩) ⟨145, 23, 145, 29⟩) (.int 2 ⟨145, 32, 145, 33⟩) ⟨145, 23, 145, 33⟩) (.int 1 ⟨145, 37, 145, 38⟩) ⟨145, 23, 145, 38⟩) (.sub (.loc 18 ⟨145, 15, 145, 16⟩) (.int 3 ⟨145, 17, 145, 18⟩) ⟨145, 15, 145, 19⟩) (.neg 1 ⟨145, 45, 145, 46⟩ ⟨145, 44, 145, 46⟩) ⟨145, 15, 145, 46⟩) ⟨145, 8, 145, 12⟩ ⟨145, 8, 145, 46⟩,
   .asL 23 (.bin .Add (.bin .Add (.bin .Add (.call 14 [.lst [.str (Str.ofString "cut r") [99, 117, 116, 32, 114] ⟨146, 24, 146, 31⟩, .sub (.loc 18 ⟨146, 33, 146, 34⟩) (.int 0 ⟨146, 35, 146, 36⟩) ⟨146, 33, 146, 37⟩, .str (Str.ofString " r") [32, 114] ⟨146, 39, 146, 43⟩, .sub (.loc 18 ⟨146, 45, 146, 46⟩) (.int 1 ⟨146, 47, 146, 48⟩) ⟨146, 45, 146, 49⟩, .str (Str.ofString " ") [32] ⟨146, 51, 146, 54⟩] ⟨146, 23, 146, 55⟩] ⟨146, 14, 146, 22⟩ ⟨146, 14, 146, 56⟩) (.ife (.cmp .Lt (.loc 21 ⟨146, 67, 146, 70⟩) (.int 0 ⟨146, 73, 146, 74⟩) ⟨146, 67, 146, 74⟩) (.str (Str.ofString "-") [45] ⟨146, 60, 146, 63⟩) (.call 14 [.lst [.str (Str.ofString "r") [114] ⟨146, 90, 146, 93⟩, .loc 21 ⟨146, 95, 146, 98⟩] ⟨146, 89, 146, 99⟩] ⟨146, 80, 146, 88⟩ ⟨146, 80, 146, 100⟩) ⟨146, 60, 146, 100⟩) ⟨146, 14, 146, 101⟩) (.str (Str.ofString " ") [32] ⟨146, 104, 146, 107⟩) ⟨146, 14, 146, 107⟩) (.ife (.cmp .Lt (.loc 22 ⟨146, 118, 146, 122⟩) (.int 0 ⟨146, 125, 146, 126⟩) ⟨146, 118, 146, 126⟩) (.str (Str.ofString "-") [45] ⟨146, 111, 146, 114⟩) (.call 14 [.lst [.str (Str.ofString "r") [114] ⟨146, 142, 146, 145⟩, .loc 22 ⟨146, 147, 146, 151⟩] ⟨146, 141, 146, 152⟩] ⟨146, 132, 146, 140⟩ ⟨146, 132, 146, 153⟩) ⟨146, 111, 146, 153⟩) ⟨146, 14, 146, 154⟩) ⟨146, 8, 146, 11⟩ ⟨146, 8, 146, 154⟩,
   .ret (.tup [.tup [.str (Str.ofString "cut") [99, 117, 116] ⟨147, 17, 147, 22⟩, .sub (.loc 18 ⟨147, 24, 147, 25⟩) (.int 0 ⟨147, 26, 147, 27⟩) ⟨147, 24, 147, 28⟩, .sub (.loc 18 ⟨147, 30, 147, 31⟩) (.int 1 ⟨147, 32, 147, 33⟩) ⟨147, 30, 147, 34⟩, .loc 21 ⟨147, 36, 147, 39⟩, .loc 22 ⟨147, 41, 147, 45⟩] ⟨147, 16, 147, 46⟩, .bin .Add (.lst [.sub (.loc 18 ⟨147, 49, 147, 50⟩) (.int 1 ⟨147, 51, 147, 52⟩) ⟨147, 49, 147, 53⟩] ⟨147, 48, 147, 54⟩) (.cmpr (.cvr 5 ⟨147, 58, 147, 61⟩) 5 ⟨147, 66, 147, 69⟩ (.tup [.loc 21 ⟨147, 74, 147, 77⟩, .loc 22 ⟨147, 79, 147, 83⟩] ⟨147, 73, 147, 84⟩) [.cmp .GtE (.cvr 5 ⟨147, 88, 147, 91⟩) (.int 0 ⟨147, 95, 147, 96⟩) ⟨147, 88, 147, 96⟩] { kind := .function, names := [(Str.ofString ".0", .local), (Str.ofString "one", .local)], isGenerator := false, isCoroutine := false, more := [] } ⟨147, 57, 147, 97⟩) ⟨147, 48, 147, 97⟩, .loc 23 ⟨147, 99, 147, 102⟩] ⟨147, 15, 147, 103⟩) ⟨147, 8, 147, 103⟩] [] ⟨143, 4, 147, 103⟩,
   .ife (.cmp .Eq (.loc 16 ⟨148, 7, 148, 11⟩) (.str (Str.ofString "temp") [116, 101, 109, 112] ⟨148, 15, 148, 21⟩) ⟨148, 7, 148, 21⟩) [.ret (.tup [.tup [.str (Str.ofString "temp") [116, 101, 109, 112] ⟨149, 17, 149, 23⟩, .sub (.loc 18 ⟨149, 25, 149, 26⟩) (.int 0 ⟨149, 27, 149, 28⟩) ⟨149, 25, 149, 29⟩, .int 5 ⟨149, 31, 149, 32⟩, .sub (.loc 18 ⟨149, 34, 149, 35⟩) (.int 1 ⟨149, 36, 149, 37⟩) ⟨149, 34, 149, 38⟩] ⟨149, 16, 149, 39⟩, .sli (.loc 18 ⟨149, 41, 149, 42⟩) (.int 1 ⟨149, 43, 149, 44⟩) (.int 2 ⟨149, 45, 149, 46⟩) ⟨149, 43, 149, 46⟩ ⟨149, 41, 149, 47⟩, .call 14 [.lst [.str (Str.ofString "temp r") [116, 101, 109, 112, 32, 114] ⟨149, 59, 149, 67⟩, .sub (.loc 18 ⟨149, 69, 149, 70⟩) (.int 0 ⟨149, 71, 149, 72⟩) ⟨149, 69, 149, 73⟩, .str (Str.ofString " 5 r") [32, 53, 32, 114] ⟨149, 75, 149, 81⟩, .sub (.loc 18 ⟨149, 83, 149, 84⟩) (.int 1 ⟨149, 85, 149, 86⟩) ⟨149, 83, 149, 87⟩] ⟨149, 58, 149, 88⟩] ⟨149, 49, 149, 57⟩ ⟨149, 49, 149, 89⟩] ⟨149, 15, 149, 90⟩) ⟨149, 8, 149, 90⟩] [] ⟨148, 4, 149, 90⟩,
   .ife (.cmp .Eq (.loc 16 ⟨150, 7, 150, 11⟩) (.str (Str.ofString "intr") [105, 110, 116, 114] ⟨150, 15, 150, 21⟩) ⟨150, 7, 150, 21⟩) [.ret (.tup [.tup [.str (Str.ofString "intr") [105, 110, 116, 114] ⟨151, 17, 151, 23⟩, .sub (.loc 18 ⟨151, 25, 151, 26⟩) (.int 0 ⟨151, 27, 151, 28⟩) ⟨151, 25, 151, 29⟩, .str (Str.ofString "MAX") [77, 65, 88] ⟨151, 31, 151, 36⟩, .lst [.int 0 ⟨151, 39, 151, 40⟩, .int 0 ⟨151, 42, 151, 43⟩] ⟨151, 38, 151, 44⟩, .sli (.loc 18 ⟨151, 46, 151, 47⟩) (.int 1 ⟨151, 48, 151, 49⟩) (.int 3 ⟨151, 50, 151, 51⟩) ⟨151, 48, 151, 51⟩ ⟨151, 46, 151, 52⟩] ⟨151, 16, 151, 53⟩, .sli (.loc 18 ⟨151, 55, 151, 56⟩) (.int 1 ⟨151, 57, 151, 58⟩) (.int 3 ⟨151, 59, 151, 60⟩) ⟨151, 57, 151, 60⟩ ⟨151, 55, 151, 61⟩, .call 14 [.lst [.str (Str.ofString "intr r") [105, 110, 116, 114, 32, 114] ⟨151, 73, 151, 81⟩, .sub (.loc 18 ⟨151, 83, 151, 84⟩) (.int 0 ⟨151, 85, 151, 86⟩) ⟨151, 83, 151, 87⟩, .str (Str.ofString " MAX [0, 0] (r") [32, 77, 65, 88, 32, 91, 48, 44, 32, 48, 93, 32, 40, 114] ⟨151, 89, 151, 105⟩, .sub (.loc 18 ⟨151, 107, 151, 108⟩) (.int 1 ⟨151, 109, 151, 110⟩) ⟨151, 107, 151, 111⟩, .str (Str.ofString " r") [32, 114] ⟨151, 113, 151, 117⟩, .sub (.loc 18 ⟨151, 119, 151, 120⟩) (.int 2 ⟨151, 121, 151, 122⟩) ⟨151, 119, 151, 123⟩, .str (Str.ofString ")") [41] ⟨151, 125, 151, 128⟩] ⟨151, 72, 151, 129⟩] ⟨151, 63, 151, 71⟩ ⟨151, 63, 151, 130⟩] ⟨151, 15, 151, 131⟩) ⟨151, 8, 151, 131⟩] [] ⟨150, 4, 151, 131⟩,
   .ife (.cmp .Eq (.loc 16 ⟨152, 7, 152, 11⟩) (.str (Str.ofString "count") [99, 111, 117, 110, 116] ⟨152, 15, 152, 22⟩) ⟨152, 7, 152, 22⟩) [.ret (.tup [.tup [.str (Str.ofString "count") [99, 111, 117, 110, 116] ⟨153, 17, 153, 24⟩, .sub (.loc 18 ⟨153, 26, 153, 27⟩) (.int 0 ⟨153, 28, 153, 29⟩) ⟨153, 26, 153, 30⟩, .int 0 ⟨153, 32, 153, 33⟩, .sub (.loc 18 ⟨153, 35, 153, 36⟩) (.int 1 ⟨153, 37, 153, 38⟩) ⟨153, 35, 153, 39⟩, .sub (.loc 18 ⟨153, 41, 153, 42⟩) (.int 2 ⟨153, 43, 153, 44⟩) ⟨153, 41, 153, 45⟩, .sub (.loc 18 ⟨153, 47, 153, 48⟩) (.int 3 ⟨153, 49, 153, 50⟩) ⟨153, 47, 153, 51⟩] ⟨153, 16, 153, 52⟩, .sli (.loc 18 ⟨153, 54, 153, 55⟩) (.int 1 ⟨153, 56, 153, 57⟩) (.int 4 ⟨153, 58, 153, 59⟩) ⟨153, 56, 153, 59⟩ ⟨153, 54, 153, 60⟩, .call 14 [.lst [.str (Str.ofString "count r") [99, 111, 117, 110, 116, 32, 114] ⟨153, 72, 153, 81⟩, .sub (.loc 18 ⟨153, 83, 153, 84⟩) (.int 0 ⟨153, 85, 153, 86⟩) ⟨153, 83, 153, 87⟩, .str (Str.ofString " 0 r") [32, 48, 32, 114] ⟨153, 89, 153, 95⟩, .sub (.loc 18 ⟨153, 97, 153, 98⟩) (.int 1 ⟨153, 99, 153, 100⟩) ⟨153, 97, 153, 101⟩, .str (Str.ofString " r") [32, 114] ⟨153, 103, 153, 107⟩, .sub (.loc 18 ⟨153, 109, 153, 110⟩) (.int 2 ⟨153, 111, 153, 112⟩) ⟨153, 109, 153, 113⟩, .str (Str.ofString " r") [32, 114] ⟨153, 115, 153, 119⟩, .sub (.loc 18 ⟨153, 121, 153, 122⟩) (.int 3 ⟨153, 123, 153, 124⟩) ⟨153, 121, 153, 125⟩] ⟨153, 71, 153, 126⟩] ⟨153, 62, 153, 70⟩ ⟨153, 62, 153, 127⟩] ⟨153, 15, 153, 128⟩) ⟨153, 8, 153, 128⟩] [] ⟨152, 4, 153, 128⟩,
   .ife (.cmp .Eq (.loc 16 ⟨154, 7, 154, 11⟩) (.str (Str.ofString "set") [115, 101, 116] ⟨154, 15, 154, 20⟩) ⟨154, 7, 154, 20⟩) [.ret (.tup [.tup [.str (Str.ofString "set") [115, 101, 116] ⟨155, 17, 155, 22⟩, .sub (.loc 18 ⟨155, 24, 155, 25⟩) (.int 0 ⟨155, 26, 155, 27⟩) ⟨155, 24, 155, 28⟩, .int 0 ⟨155, 30, 155, 31⟩, .loc 20 ⟨155, 33, 155, 34⟩] ⟨155, 16, 155, 35⟩, .lst [] ⟨155, 37, 155, 39⟩, .call 14 [.lst [.str (Str.ofString "set r") [115, 101, 116, 32, 114] ⟨155, 51, 155, 58⟩, .sub (.loc 18 ⟨155, 60, 155, 61⟩) (.int 0 ⟨155, 62, 155, 63⟩) ⟨155, 60, 155, 64⟩, .str (Str.ofString " 0 ") [32, 48, 32] ⟨155, 66, 155, 71⟩, .loc 20 ⟨155, 73, 155, 74⟩] ⟨155, 50, 155, 75⟩] ⟨155, 41, 155, 49⟩ ⟨155, 41, 155, 76⟩] ⟨155, 15, 155, 77⟩) ⟨155, 8, 155, 77⟩] [] ⟨154, 4, 155, 77⟩,
   .ife (.cmp .Eq (.loc 16 ⟨156, 7, 156, 11⟩) (.str (Str.ofString "addr") [97, 100, 100, 114] ⟨156, 15, 156, 21⟩) ⟨156, 7, 156, 21⟩) [.ret (.tup [.tup [.str (Str.ofString "addr") [97, 100, 100, 114] ⟨157, 17, 157, 23⟩, .sub (.loc 18 ⟨157, 25, 157, 26⟩) (.int 0 ⟨157, 27, 157, 28⟩) ⟨157, 25, 157, 29⟩, .str (Str.ofString "X") [88] ⟨157, 31, 157, 34⟩] ⟨157, 16, 157, 35⟩, .lst [] ⟨157, 37, 157, 39⟩, .call 14 [.lst [.str (Str.ofString "addr r") [97, 100, 100, 114, 32, 114] ⟨157, 51, 157, 59⟩, .sub (.loc 18 ⟨157, 61, 157, 62⟩) (.int 0 ⟨157, 63, 157, 64⟩) ⟨157, 61, 157, 65⟩, .str (Str.ofString " X") [32, 88] ⟨157, 67, 157, 71⟩] ⟨157, 50, 157, 72⟩] ⟨157, 41, 157, 49⟩ ⟨157, 41, 157, 73⟩] ⟨157, 15, 157, 74⟩) ⟨157, 8, 157, 74⟩] [] ⟨156, 4, 157, 74⟩,
   .ife (.cmp .Eq (.loc 16 ⟨158, 7, 158, 11⟩) (.str (Str.ofString "fetch") [102, 101, 116, 99, 104] ⟨158, 15, 158, 22⟩) ⟨158, 7, 158, 22⟩) [.ret (.tup [.tup [.str (Str.ofString "fetch") [102, 101, 116, 99, 104] ⟨159, 17, 159, 24⟩, .sub (.loc 18 ⟨159, 26, 159, 27⟩) (.int 0 ⟨159, 28, 159, 29⟩) ⟨159, 26, 159, 30⟩, .loc 20 ⟨159, 32, 159, 33⟩] ⟨159, 16, 159, 34⟩, .lst [] ⟨159, 36, 159, 38⟩, .call 14 [.lst [.str (Str.ofString "fetch r") [102, 101, 116, 99, 104, 32, 114] ⟨159, 50, 159, 59⟩, .sub (.loc 18 ⟨159, 61, 159, 62⟩) (.int 0 ⟨159, 63, 159, 64⟩) ⟨159, 61, 159, 65⟩, .str (Str.ofString " ") [32] ⟨159, 67, 159, 70⟩, .loc 20 ⟨159, 72, 159, 73⟩] ⟨159, 49, 159, 74⟩] ⟨159, 40, 159, 48⟩ ⟨159, 40, 159, 75⟩] ⟨159, 15, 159, 76⟩) ⟨159, 8, 159, 76⟩] [] ⟨158, 4, 159, 76⟩,
   .ret (.tup [.tup [.loc 16 ⟨160, 13, 160, 17⟩, .sub (.loc 18 ⟨160, 19, 160, 20⟩) (.int 0 ⟨160, 21, 160, 22⟩) ⟨160, 19, 160, 23⟩, .sub (.loc 18 ⟨160, 25, 160, 26⟩) (.int 1 ⟨160, 27, 160, 28⟩) ⟨160, 25, 160, 29⟩] ⟨160, 12, 160, 30⟩, .sli (.loc 18 ⟨160, 32, 160, 33⟩) (.int 1 ⟨160, 34, 160, 35⟩) (.int 2 ⟨160, 36, 160, 37⟩) ⟨160, 34, 160, 37⟩ ⟨160, 32, 160, 38⟩, .call 14 [.lst [.loc 16 ⟨160, 50, 160, 54⟩, .str (Str.ofString " r") [32, 114] ⟨160, 56, 160, 60⟩, .sub (.loc 18 ⟨160, 62, 160, 63⟩) (.int 0 ⟨160, 64, 160, 65⟩) ⟨160, 62, 160, 66⟩, .str (Str.ofString " r") [32, 114] ⟨160, 68, 160, 72⟩, .sub (.loc 18 ⟨160, 74, 160, 75⟩) (.int 1 ⟨160, 76, 160, 77⟩) ⟨160, 74, 160, 78⟩] ⟨160, 49, 160, 79⟩] ⟨160, 40, 160, 48⟩ ⟨160, 40, 160, 80⟩] ⟨160, 11, 160, 81⟩) ⟨160, 4, 160, 81⟩]
noncomputable def f_law_two : FD := { ps := [16, 18, 20], cs := [], body := b_law_two }
noncomputable def b_law_list : List S :=
  [.ret (.bin .Add (.bin .Add (.str (Str.ofString "(") [40] ⟨162, 11, 162, 14⟩) (.join (.str (Str.ofString " ") [32] ⟨162, 17, 162, 20⟩) (.cmpr (.bin .Add (.fre 25 ⟨162, 27, 162, 31⟩) (.strf (.cvr 5 ⟨162, 38, 162, 41⟩) ⟨162, 34, 162, 37⟩ ⟨162, 34, 162, 42⟩) ⟨162, 27, 162, 42⟩) 5 ⟨162, 47, 162, 50⟩ (.loc 24 ⟨162, 54, 162, 61⟩) [] { kind := .function, names := [(Str.ofString ".0", .local), (Str.ofString "one", .local), (Str.ofString "str", .globalImplicit), (Str.ofString "sign", .free)], isGenerator := false, isCoroutine := false, more := [] } ⟨162, 26, 162, 62⟩) ⟨162, 17, 162, 25⟩ ⟨162, 17, 162, 63⟩) ⟨162, 11, 162, 63⟩) (.str (Str.ofString ")") [41] ⟨162, 66, 162, 69⟩) ⟨162, 11, 162, 69⟩) ⟨162, 4, 162, 69⟩]
noncomputable def f_law_list : FD := { ps := [24, 25], cs := [25], body := b_law_list }
noncomputable def b_law_parts : List S :=
  [.ife (.cmp .Eq (.loc 16 ⟨164, 7, 164, 11⟩) (.str (Str.ofString "store") [115, 116, 111, 114, 101] ⟨164, 15, 164, 22⟩) ⟨164, 7, 164, 22⟩) [.ret (.tup [.tup [.str (Str.ofString "store") [115, 116, 111, 114, 101] ⟨165, 17, 165, 24⟩, .sub (.loc 18 ⟨165, 26, 165, 27⟩) (.int 0 ⟨165, 28, 165, 29⟩) ⟨165, 26, 165, 30⟩, .sub (.loc 18 ⟨165, 32, 165, 33⟩) (.int 1 ⟨165, 34, 165, 35⟩) ⟨165, 32, 165, 36⟩] ⟨165, 16, 165, 37⟩, .sliT (.loc 18 ⟨165, 39, 165, 40⟩) (.int 2 ⟨165, 42, 165, 43⟩) ⟨165, 41, 165, 43⟩ ⟨165, 39, 165, 44⟩, .neg 1 ⟨165, 47, 165, 48⟩ ⟨165, 46, 165, 48⟩, .lst [] ⟨165, 50, 165, 52⟩, .call 14 [.lst [.str (Str.ofString "store r") [115, 116, 111, 114, 101, 32, 114] ⟨165, 64, 165, 73⟩, .sub (.loc 18 ⟨165, 75, 165, 76⟩) (.int 0 ⟨165, 77, 165, 78⟩) ⟨165, 75, 165, 79⟩, .str (Str.ofString " r") [32, 114] ⟨165, 81, 165, 85⟩, .sub (.loc 18 ⟨165, 87, 165, 88⟩) (.int 1 ⟨165, 89, 165, 90⟩) ⟨165, 87, 165, 91⟩] ⟨165, 63, 165, 92⟩] ⟨165, 54, 165, 62⟩ ⟨165, 54, 165, 93⟩] ⟨165, 15, 165, 94⟩) ⟨165, 8, 165, 94⟩] [] ⟨164, 4, 165, 94⟩,
   .ife (.cmp .Eq (.loc 16 ⟨166, 7, 166, 11⟩) (.str (Str.ofString "call") [99, 97, 108, 108] ⟨166, 15, 166, 21⟩) ⟨166, 7, 166, 21⟩) [.asL 26 (.ife (.cmp .Eq (.bin .Mod (.loc 20 ⟨167, 23, 167, 24⟩) (.int 2 ⟨167, 27, 167, 28⟩) ⟨167, 23, 167, 28⟩) (.int 1 ⟨167, 32, 167, 33⟩) ⟨167, 23, 167, 33⟩) (.sub (.loc 18 ⟨167, 15, 167, 16⟩) (.int 0 ⟨167, 17, 167, 18⟩) ⟨167, 15, 167, 19⟩) (.neg 1 ⟨167, 40, 167, 41⟩ ⟨167, 39, 167, 41⟩) ⟨167, 15, 167, 41⟩) ⟨167, 8, 167, 12⟩ ⟨167, 8, 167, 41⟩,
   .asL 27 (.sub (.lst [.lst [] ⟨168, 17, 168, 19⟩, .lst [.sub (.loc 18 ⟨168, 22, 168, 23⟩) (.int 1 ⟨168, 24, 168, 25⟩) ⟨168, 22, 168, 26⟩] ⟨168, 21, 168, 27⟩, .lst [.tup [.str (Str.ofString "proc") [112, 114, 111, 99] ⟨168, 31, 168, 37⟩, .str (Str.ofString "T") [84] ⟨168, 39, 168, 42⟩] ⟨168, 30, 168, 43⟩, .sub (.loc 18 ⟨168, 45, 168, 46⟩) (.int 1 ⟨168, 47, 168, 48⟩) ⟨168, 45, 168, 49⟩] ⟨168, 29, 168, 50⟩, .lst [.sub (.loc 18 ⟨168, 53, 168, 54⟩) (.int 1 ⟨168, 55, 168, 56⟩) ⟨168, 53, 168, 57⟩, .tup [.str (Str.ofString "proc") [112, 114, 111, 99] ⟨168, 60, 168, 66⟩, .str (Str.ofString "T") [84] ⟨168, 68, 168, 71⟩] ⟨168, 59, 168, 72⟩, .sub (.loc 18 ⟨168, 74, 168, 75⟩) (.int 2 ⟨168, 76, 168, 77⟩) ⟨168, 74, 168, 78⟩] ⟨168, 52, 168, 79⟩] ⟨168, 16, 168, 80⟩) (.bin .Mod (.loc 20 ⟨168, 81, 168, 82⟩) (.int 4 ⟨168, 85, 168, 86⟩) ⟨168, 81, 168, 86⟩) ⟨168, 16, 168, 87⟩) ⟨168, 8, 168, 13⟩ ⟨168, 8, 168, 87⟩,
   .asL 28 (.sliT (.loc 29 ⟨169, 16, 169, 17⟩) (.bin .Mod (.bin .FloorDiv (.loc 20 ⟨169, 19, 169, 20⟩) (.int 4 ⟨169, 24, 169, 25⟩) ⟨169, 19, 169, 25⟩) (.int 3 ⟨169, 28, 169, 29⟩) ⟨169, 19, 169, 29⟩) ⟨169, 18, 169, 29⟩ ⟨169, 16, 169, 30⟩) ⟨169, 8, 169, 13⟩ ⟨169, 8, 169, 30⟩,
   .asL 23 (.bin .Add (.bin .Add (.str (Str.ofString "call ") [99, 97, 108, 108, 32] ⟨170, 14, 170, 21⟩) (.ife (.cmp .Lt (.loc 26 ⟨170, 32, 170, 36⟩) (.int 0 ⟨170, 39, 170, 40⟩) ⟨170, 32, 170, 40⟩) (.str (Str.ofString "-") [45] ⟨170, 25, 170, 28⟩) (.call 14 [.lst [.str (Str.ofString "r") [114] ⟨170, 56, 170, 59⟩, .loc 26 ⟨170, 61, 170, 65⟩] ⟨170, 55, 170, 66⟩] ⟨170, 46, 170, 54⟩ ⟨170, 46, 170, 67⟩) ⟨170, 25, 170, 67⟩) ⟨170, 14, 170, 68⟩) (.str (Str.ofString " S ") [32, 83, 32] ⟨170, 71, 170, 76⟩) ⟨170, 14, 170, 76⟩) ⟨170, 8, 170, 11⟩ ⟨170, 8, 170, 76⟩,
   .augL 23 (.bin .Add (.bin .Add (.bin .Add (.str (Str.ofString "(") [40] ⟨171, 15, 171, 18⟩) (.join (.str (Str.ofString " ") [32] ⟨171, 21, 171, 24⟩) (.cmpr (.ife (.isT (.cvr 5 ⟨171, 49, 171, 52⟩) ⟨171, 38, 171, 48⟩ ⟨171, 54, 171, 59⟩ ⟨171, 38, 171, 60⟩) (.str (Str.ofString "T") [84] ⟨171, 31, 171, 34⟩) (.call 14 [.lst [.str (Str.ofString "r") [114] ⟨171, 76, 171, 79⟩, .cvr 5 ⟨171, 81, 171, 84⟩] ⟨171, 75, 171, 85⟩] ⟨171, 66, 171, 74⟩ ⟨171, 66, 171, 86⟩) ⟨171, 31, 171, 86⟩) 5 ⟨171, 91, 171, 94⟩ (.loc 27 ⟨171, 98, 171, 103⟩) [] { kind := .function, names := [(Str.ofString ".0", .local), (Str.ofString "one", .local), (Str.ofString "isinstance", .globalImplicit), (Str.ofString "tuple", .globalImplicit), (Str.ofString "_law_say", .globalImplicit)], isGenerator := false, isCoroutine := false, more := [] } ⟨171, 30, 171, 104⟩) ⟨171, 21, 171, 29⟩ ⟨171, 21, 171, 105⟩) ⟨171, 15, 171, 105⟩) (.str (Str.ofString ") ") [41, 32] ⟨171, 108, 171, 112⟩) ⟨171, 15, 171, 112⟩) (.call 16 [.loc 28 ⟨171, 125, 171, 130⟩, .str (Str.ofString "@") [64] ⟨171, 132, 171, 135⟩] ⟨171, 115, 171, 124⟩ ⟨171, 115, 171, 136⟩) ⟨171, 15, 171, 136⟩) ⟨171, 8, 171, 11⟩ ⟨171, 8, 171, 136⟩,
   .ret (.tup [.tup [.str (Str.ofString "call") [99, 97, 108, 108] ⟨172, 17, 172, 23⟩, .loc 26 ⟨172, 25, 172, 29⟩, .str (Str.ofString "S") [83] ⟨172, 31, 172, 34⟩, .loc 27 ⟨172, 36, 172, 41⟩, .loc 28 ⟨172, 43, 172, 48⟩] ⟨172, 16, 172, 49⟩, .cmpr (.cvr 5 ⟨172, 52, 172, 55⟩) 5 ⟨172, 60, 172, 63⟩ (.loc 27 ⟨172, 67, 172, 72⟩) [.not (.isT (.cvr 5 ⟨172, 91, 172, 94⟩) ⟨172, 80, 172, 90⟩ ⟨172, 96, 172, 101⟩ ⟨172, 80, 172, 102⟩) ⟨172, 76, 172, 102⟩] { kind := .function, names := [(Str.ofString ".0", .local), (Str.ofString "one", .local), (Str.ofString "isinstance", .globalImplicit), (Str.ofString "tuple", .globalImplicit)], isGenerator := false, isCoroutine := false, more := [] } ⟨172, 51, 172, 103⟩, .loc 26 ⟨172, 105, 172, 109⟩, .loc 28 ⟨172, 111, 172, 116⟩, .loc 23 ⟨172, 118, 172, 121⟩] ⟨172, 15, 172, 122⟩) ⟨172, 8, 172, 122⟩] [] ⟨166, 4, 172, 122⟩,
   .ife (.cmp .Eq (.loc 16 ⟨173, 7, 173, 11⟩) (.str (Str.ofString "jump") [106, 117, 109, 112] ⟨173, 15, 173, 21⟩) ⟨173, 7, 173, 21⟩) [.ret (.tup [.tup [.str (Str.ofString "jump") [106, 117, 109, 112] ⟨174, 17, 174, 23⟩, .sub (.loc 29 ⟨174, 25, 174, 26⟩) (.int 0 ⟨174, 27, 174, 28⟩) ⟨174, 25, 174, 29⟩] ⟨174, 16, 174, 30⟩, .lst [] ⟨174, 32, 174, 34⟩, .neg 1 ⟨174, 37, 174, 38⟩ ⟨174, 36, 174, 38⟩, .sliT (.loc 29 ⟨174, 40, 174, 41⟩) (.int 1 ⟨174, 43, 174, 44⟩) ⟨174, 42, 174, 44⟩ ⟨174, 40, 174, 45⟩, .call 14 [.lst [.str (Str.ofString "jump @") [106, 117, 109, 112, 32, 64] ⟨174, 57, 174, 65⟩, .sub (.loc 29 ⟨174, 67, 174, 68⟩) (.int 0 ⟨174, 69, 174, 70⟩) ⟨174, 67, 174, 71⟩] ⟨174, 56, 174, 72⟩] ⟨174, 47, 174, 55⟩ ⟨174, 47, 174, 73⟩] ⟨174, 15, 174, 74⟩) ⟨174, 8, 174, 74⟩] [] ⟨173, 4, 174, 74⟩,
   .ife (.or [.cmp .Eq (.loc 16 ⟨175, 7, 175, 11⟩) (.str (Str.ofString "true") [116, 114, 117, 101] ⟨175, 15, 175, 21⟩) ⟨175, 7, 175, 21⟩, .cmp .Eq (.loc 16 ⟨175, 25, 175, 29⟩) (.str (Str.ofString "false") [102, 97, 108, 115, 101] ⟨175, 33, 175, 40⟩) ⟨175, 25, 175, 40⟩] ⟨175, 7, 175, 40⟩) [.ret (.tup [.tup [.loc 16 ⟨176, 17, 176, 21⟩, .sub (.loc 18 ⟨176, 23, 176, 24⟩) (.int 0 ⟨176, 25, 176, 26⟩) ⟨176, 23, 176, 27⟩, .sub (.loc 29 ⟨176, 29, 176, 30⟩) (.int 0 ⟨176, 31, 176, 32⟩) ⟨176, 29, 176, 33⟩] ⟨176, 16, 176, 34⟩, .sliT (.loc 18 ⟨176, 36, 176, 37⟩) (.int 1 ⟨176, 39, 176, 40⟩) ⟨176, 38, 176, 40⟩ ⟨176, 36, 176, 41⟩, .neg 1 ⟨176, 44, 176, 45⟩ ⟨176, 43, 176, 45⟩, .sliT (.loc 29 ⟨176, 47, 176, 48⟩) (.int 1 ⟨176, 50, 176, 51⟩) ⟨176, 49, 176, 51⟩ ⟨176, 47, 176, 52⟩, .call 14 [.lst [.loc 16 ⟨176, 64, 176, 68⟩, .str (Str.ofString " r") [32, 114] ⟨176, 70, 176, 74⟩, .sub (.loc 18 ⟨176, 76, 176, 77⟩) (.int 0 ⟨176, 78, 176, 79⟩) ⟨176, 76, 176, 80⟩, .str (Str.ofString " @") [32, 64] ⟨176, 82, 176, 86⟩, .sub (.loc 29 ⟨176, 88, 176, 89⟩) (.int 0 ⟨176, 90, 176, 91⟩) ⟨176, 88, 176, 92⟩] ⟨176, 63, 176, 93⟩] ⟨176, 54, 176, 62⟩ ⟨176, 54, 176, 94⟩] ⟨176, 15, 176, 95⟩) ⟨176, 8, 176, 95⟩] [] ⟨175, 4, 176, 95⟩,
   .ife (.cmp .Eq (.loc 16 ⟨177, 7, 177, 11⟩) (.str (Str.ofString "sign") [115, 105, 103, 110] ⟨177, 15, 177, 21⟩) ⟨177, 7, 177, 21⟩) [.ret (.tup [.tup [.str (Str.ofString "sign") [115, 105, 103, 110] ⟨178, 17, 178, 23⟩, .sub (.loc 18 ⟨178, 25, 178, 26⟩) (.int 0 ⟨178, 27, 178, 28⟩) ⟨178, 25, 178, 29⟩, .sub (.loc 29 ⟨178, 31, 178, 32⟩) (.int 0 ⟨178, 33, 178, 34⟩) ⟨178, 31, 178, 35⟩, .sub (.loc 29 ⟨178, 37, 178, 38⟩) (.int 1 ⟨178, 39, 178, 40⟩) ⟨178, 37, 178, 41⟩, .sub (.loc 29 ⟨178, 43, 178, 44⟩) (.int 2 ⟨178, 45, 178, 46⟩) ⟨178, 43, 178, 47⟩] ⟨178, 16, 178, 48⟩, .sliT (.loc 18 ⟨178, 50, 178, 51⟩) (.int 1 ⟨178, 53, 178, 54⟩) ⟨178, 52, 178, 54⟩ ⟨178, 50, 178, 55⟩, .neg 1 ⟨178, 58, 178, 59⟩ ⟨178, 57, 178, 59⟩, .sliT (.loc 29 ⟨178, 61, 178, 62⟩) (.int 3 ⟨178, 64, 178, 65⟩) ⟨178, 63, 178, 65⟩ ⟨178, 61, 178, 66⟩, .call 14 [.lst [.str (Str.ofString "sign r") [115, 105, 103, 110, 32, 114] ⟨178, 78, 178, 86⟩, .sub (.loc 18 ⟨178, 88, 178, 89⟩) (.int 0 ⟨178, 90, 178, 91⟩) ⟨178, 88, 178, 92⟩, .str (Str.ofString " @") [32, 64] ⟨178, 94, 178, 98⟩, .sub (.loc 29 ⟨178, 100, 178, 101⟩) (.int 0 ⟨178, 102, 178, 103⟩) ⟨178, 100, 178, 104⟩, .str (Str.ofString " @") [32, 64] ⟨178, 106, 178, 110⟩, .sub (.loc 29 ⟨178, 112, 178, 113⟩) (.int 1 ⟨178, 114, 178, 115⟩) ⟨178, 112, 178, 116⟩, .str (Str.ofString " @") [32, 64] ⟨178, 118, 178, 122⟩, .sub (.loc 29 ⟨178, 124, 178, 125⟩) (.int 2 ⟨178, 126, 178, 127⟩) ⟨178, 124, 178, 128⟩] ⟨178, 77, 178, 129⟩] ⟨178, 68, 178, 76⟩ ⟨178, 68, 178, 130⟩] ⟨178, 15, 178, 131⟩) ⟨178, 8, 178, 131⟩] [] ⟨177, 4, 178, 131⟩,
   .ife (.cmp .Eq (.loc 16 ⟨179, 7, 179, 11⟩) (.str (Str.ofString "switch") [115, 119, 105, 116, 99, 104] ⟨179, 15, 179, 23⟩) ⟨179, 7, 179, 23⟩) [.ret (.tup [.tup [.str (Str.ofString "switch") [115, 119, 105, 116, 99, 104] ⟨180, 17, 180, 25⟩, .sub (.loc 18 ⟨180, 27, 180, 28⟩) (.int 0 ⟨180, 29, 180, 30⟩) ⟨180, 27, 180, 31⟩, .sliT (.loc 29 ⟨180, 33, 180, 34⟩) (.bin .Add (.int 1 ⟨180, 36, 180, 37⟩) (.bin .Mod (.loc 20 ⟨180, 40, 180, 41⟩) (.int 3 ⟨180, 44, 180, 45⟩) ⟨180, 40, 180, 45⟩) ⟨180, 36, 180, 45⟩) ⟨180, 35, 180, 45⟩ ⟨180, 33, 180, 46⟩] ⟨180, 16, 180, 47⟩, .sliT (.loc 18 ⟨180, 49, 180, 50⟩) (.int 1 ⟨180, 52, 180, 53⟩) ⟨180, 51, 180, 53⟩ ⟨180, 49, 180, 54⟩, .neg 1 ⟨180, 57, 180, 58⟩ ⟨180, 56, 180, 58⟩, .sliT (.loc 29 ⟨180, 60, 180, 61⟩) (.bin .Add (.int 1 ⟨180, 63, 180, 64⟩) (.bin .Mod (.loc 20 ⟨180, 67, 180, 68⟩) (.int 3 ⟨180, 71, 180, 72⟩) ⟨180, 67, 180, 72⟩) ⟨180, 63, 180, 72⟩) ⟨180, 62, 180, 72⟩ ⟨180, 60, 180, 73⟩, .bin .Add (.call 14 [.lst [.str (Str.ofString "switch r") [115, 119, 105, 116, 99, 104, 32, 114] ⟨180, 85, 180, 95⟩, .sub (.loc 18 ⟨180, 97, 180, 98⟩) (.int 0 ⟨180, 99, 180, 100⟩) ⟨180, 97, 180, 101⟩, .str (Str.ofString " ") [32] ⟨180, 103, 180, 106⟩] ⟨180, 84, 180, 107⟩] ⟨180, 75, 180, 83⟩ ⟨180, 75, 180, 108⟩) (.call 16 [.sliT (.loc 29 ⟨180, 121, 180, 122⟩) (.bin .Add (.int 1 ⟨180, 124, 180, 125⟩) (.bin .Mod (.loc 20 ⟨180, 128, 180, 129⟩) (.int 3 ⟨180, 132, 180, 133⟩) ⟨180, 128, 180, 133⟩) ⟨180, 124, 180, 133⟩) ⟨180, 123, 180, 133⟩ ⟨180, 121, 180, 134⟩, .str (Str.ofString "@") [64] ⟨180, 136, 180, 139⟩] ⟨180, 111, 180, 120⟩ ⟨180, 111, 180, 140⟩) ⟨180, 75, 180, 140⟩] ⟨180, 15, 180, 141⟩) ⟨180, 8, 180, 141⟩] [] ⟨179, 4, 180, 141⟩,
   .ife (.cmp .Eq (.loc 16 ⟨181, 7, 181, 11⟩) (.str (Str.ofString "setlabel") [115, 101, 116, 108, 97, 98, 101, 108] ⟨181, 15, 181, 25⟩) ⟨181, 7, 181, 25⟩) [.ret (.tup [.tup [.str (Str.ofString "setlabel") [115, 101, 116, 108, 97, 98, 101, 108] ⟨182, 17, 182, 27⟩, .sub (.loc 18 ⟨182, 29, 182, 30⟩) (.int 0 ⟨182, 31, 182, 32⟩) ⟨182, 29, 182, 33⟩, .loc 20 ⟨182, 35, 182, 36⟩] ⟨182, 16, 182, 37⟩, .sliT (.loc 18 ⟨182, 39, 182, 40⟩) (.int 1 ⟨182, 42, 182, 43⟩) ⟨182, 41, 182, 43⟩ ⟨182, 39, 182, 44⟩, .neg 1 ⟨182, 47, 182, 48⟩ ⟨182, 46, 182, 48⟩, .lst [] ⟨182, 50, 182, 52⟩, .call 14 [.lst [.str (Str.ofString "setlabel r") [115, 101, 116, 108, 97, 98, 101, 108, 32, 114] ⟨182, 64, 182, 76⟩, .sub (.loc 18 ⟨182, 78, 182, 79⟩) (.int 0 ⟨182, 80, 182, 81⟩) ⟨182, 78, 182, 82⟩, .str (Str.ofString " ") [32] ⟨182, 84, 182, 87⟩, .loc 20 ⟨182, 89, 182, 90⟩] ⟨182, 63, 182, 91⟩] ⟨182, 54, 182, 62⟩ ⟨182, 54, 182, 92⟩] ⟨182, 15, 182, 93⟩) ⟨182, 8, 182, 93⟩] [] ⟨181, 4, 182, 93⟩,
   .ife (.cmp .Eq (.loc 16 ⟨183, 7, 183, 11⟩) (.str (Str.ofString "agoto") [97, 103, 111, 116, 111] ⟨183, 15, 183, 22⟩) ⟨183, 7, 183, 22⟩) [.ret (.tup [.tup [.str (Str.ofString "agoto") [97, 103, 111, 116, 111] ⟨184, 17, 184, 24⟩, .sub (.loc 18 ⟨184, 26, 184, 27⟩) (.int 0 ⟨184, 28, 184, 29⟩) ⟨184, 26, 184, 30⟩, .lst [.tup [.int 10 ⟨184, 34, 184, 36⟩, .sub (.loc 29 ⟨184, 38, 184, 39⟩) (.int 0 ⟨184, 40, 184, 41⟩) ⟨184, 38, 184, 42⟩] ⟨184, 33, 184, 43⟩, .tup [.int 20 ⟨184, 46, 184, 48⟩, .sub (.loc 29 ⟨184, 50, 184, 51⟩) (.int 1 ⟨184, 52, 184, 53⟩) ⟨184, 50, 184, 54⟩] ⟨184, 45, 184, 55⟩] ⟨184, 32, 184, 56⟩] ⟨184, 16, 184, 57⟩, .sliT (.loc 18 ⟨184, 59, 184, 60⟩) (.int 1 ⟨184, 62, 184, 63⟩) ⟨184, 61, 184, 63⟩ ⟨184, 59, 184, 64⟩, .neg 1 ⟨184, 67, 184, 68⟩ ⟨184, 66, 184, 68⟩, .sliT (.loc 29 ⟨184, 70, 184, 71⟩) (.int 2 ⟨184, 73, 184, 74⟩) ⟨184, 72, 184, 74⟩ ⟨184, 70, 184, 75⟩, .call 14 [.lst [.str (Str.ofString "agoto r") [97, 103, 111, 116, 111, 32, 114] ⟨184, 87, 184, 96⟩, .sub (.loc 18 ⟨184, 98, 184, 99⟩) (.int 0 ⟨184, 100, 184, 101⟩) ⟨184, 98, 184, 102⟩, .str (Str.ofString " (10@") [32, 40, 49, 48, 64] ⟨184, 104, 184, 111⟩, .sub (.loc 29 ⟨184, 113, 184, 114⟩) (.int 0 ⟨184, 115, 184, 116⟩) ⟨184, 113, 184, 117⟩, .str (Str.ofString " 20@") [32, 50, 48, 64] ⟨184, 119, 184, 125⟩, .sub (.loc 29 ⟨184, 127, 184, 128⟩) (.int 1 ⟨184, 129, 184, 130⟩) ⟨184, 127, 184, 131⟩, .str (Str.ofString ")") [41] ⟨184, 133, 184, 136⟩] ⟨184, 86, 184, 137⟩] ⟨184, 77, 184, 85⟩ ⟨184, 77, 184, 138⟩] ⟨184, 15, 184, 139⟩) ⟨184, 8, 184, 139⟩] [] ⟨183, 4, 184, 139⟩,
   .ife (.cmp .Eq (.loc 16 ⟨185, 7, 185, 11⟩) (.str (Str.ofString "return") [114, 101, 116, 117, 114, 110] ⟨185, 15, 185, 23⟩) ⟨185, 7, 185, 23⟩) [.ife (.cmp .Eq (.bin .Mod (.loc 20 ⟨186, 11, 186, 12⟩) (.int 2 ⟨186, 15, 186, 16⟩) ⟨186, 11, 186, 16⟩) (.int 0 ⟨186, 20, 186, 21⟩) ⟨186, 11, 186, 21⟩) [.ret (.tup [.tup [.str (Str.ofString "return") [114, 101, 116, 117, 114, 110] ⟨187, 21, 187, 29⟩, .neg 1 ⟨187, 32, 187, 33⟩ ⟨187, 31, 187, 33⟩] ⟨187, 20, 187, 34⟩, .lst [] ⟨187, 36, 187, 38⟩, .neg 1 ⟨187, 41, 187, 42⟩ ⟨187, 40, 187, 42⟩, .lst [] ⟨187, 44, 187, 46⟩, .str (Str.ofString "return -") [114, 101, 116, 117, 114, 110, 32, 45] ⟨187, 48, 187, 58⟩] ⟨187, 19, 187, 59⟩) ⟨187, 12, 187, 59⟩] [] ⟨186, 8, 187, 59⟩,
   .ret (.tup [.tup [.str (Str.ofString "return") [114, 101, 116, 117, 114, 110] ⟨188, 17, 188, 25⟩, .sub (.loc 18 ⟨188, 27, 188, 28⟩) (.int 0 ⟨188, 29, 188, 30⟩) ⟨188, 27, 188, 31⟩] ⟨188, 16, 188, 32⟩, .sliT (.loc 18 ⟨188, 34, 188, 35⟩) (.int 1 ⟨188, 37, 188, 38⟩) ⟨188, 36, 188, 38⟩ ⟨188, 34, 188, 39⟩, .neg 1 ⟨188, 42, 188, 43⟩ ⟨188, 41, 188, 43⟩, .lst [] ⟨188, 45, 188, 47⟩, .call 14 [.lst [.str (Str.ofString "return r") [114, 101, 116, 117, 114, 110, 32, 114] ⟨188, 59, 188, 69⟩, .sub (.loc 18 ⟨188, 71, 188, 72⟩) (.int 0 ⟨188, 73, 188, 74⟩) ⟨188, 71, 188, 75⟩] ⟨188, 58, 188, 76⟩] ⟨188, 49, 188, 57⟩ ⟨188, 49, 188, 77⟩] ⟨188, 15, 188, 78⟩) ⟨188, 8, 188, 78⟩] [] ⟨185, 4, 188, 78⟩,
   .ife (.or [.cmp .Eq (.loc 16 ⟨189, 7, 189, 11⟩) (.str (Str.ofString "stop") [115, 116, 111, 112] ⟨189, 15, 189, 21⟩) ⟨189, 7, 189, 21⟩, .cmp .Eq (.loc 16 ⟨189, 25, 189, 29⟩) (.str (Str.ofString "pause") [112, 97, 117, 115, 101] ⟨189, 33, 189, 40⟩) ⟨189, 25, 189, 40⟩] ⟨189, 7, 189, 40⟩) [.ret (.tup [.tup [.loc 16 ⟨190, 17, 190, 21⟩, .str (Str.ofString "S") [83] ⟨190, 23, 190, 26⟩] ⟨190, 16, 190, 27⟩, .lst [] ⟨190, 29, 190, 31⟩, .neg 1 ⟨190, 34, 190, 35⟩ ⟨190, 33, 190, 35⟩, .lst [] ⟨190, 37, 190, 39⟩, .bin .Add (.loc 16 ⟨190, 41, 190, 45⟩) (.str (Str.ofString " S") [32, 83] ⟨190, 48, 190, 52⟩) ⟨190, 41, 190, 52⟩] ⟨190, 15, 190, 53⟩) ⟨190, 8, 190, 53⟩] [] ⟨189, 4, 190, 53⟩,
   .ife (.cmp .Eq (.loc 16 ⟨191, 7, 191, 11⟩) (.str (Str.ofString "io") [105, 111] ⟨191, 15, 191, 19⟩) ⟨191, 7, 191, 19⟩) [.asL 23 (.bin .Add (.bin .Add (.bin .Add (.bin .Add (.bin .Add (.str (Str.ofString "io put ") [105, 111, 32, 112, 117, 116, 32] ⟨192, 14, 192, 23⟩) (.call 16 [.sliT (.loc 18 ⟨192, 36, 192, 37⟩) (.bin .Mod (.loc 20 ⟨192, 39, 192, 40⟩) (.int 3 ⟨192, 43, 192, 44⟩) ⟨192, 39, 192, 44⟩) ⟨192, 38, 192, 44⟩ ⟨192, 36, 192, 45⟩, .str (Str.ofString "r") [114] ⟨192, 47, 192, 50⟩] ⟨192, 26, 192, 35⟩ ⟨192, 26, 192, 51⟩) ⟨192, 14, 192, 51⟩) (.str (Str.ofString " ") [32] ⟨192, 54, 192, 57⟩) ⟨192, 14, 192, 57⟩) (.call 16 [.sliT (.loc 29 ⟨192, 70, 192, 71⟩) (.bin .Mod (.loc 20 ⟨192, 73, 192, 74⟩) (.int 4 ⟨192, 77, 192, 78⟩) ⟨192, 73, 192, 78⟩) ⟨192, 72, 192, 78⟩ ⟨192, 70, 192, 79⟩, .str (Str.ofString "@") [64] ⟨192, 81, 192, 84⟩] ⟨192, 60, 192, 69⟩ ⟨192, 60, 192, 85⟩) ⟨192, 14, 192, 85⟩) (.str (Str.ofString " ") [32] ⟨192, 88, 192, 91⟩) ⟨192, 14, 192, 91⟩) (.strf (.loc 20 ⟨192, 98, 192, 99⟩) ⟨192, 94, 192, 97⟩ ⟨192, 94, 192, 100⟩) ⟨192, 14, 192, 100⟩) ⟨192, 8, 192, 11⟩ ⟨192, 8, 192, 100⟩,
   .ret (.tup [.tup [.str (Str.ofString "io") [105, 111] ⟨193, 17, 193, 21⟩, .str (Str.ofString "put") [112, 117, 116] ⟨193, 23, 193, 28⟩, .tup [.sliT (.loc 18 ⟨193, 31, 193, 32⟩) (.bin .Mod (.loc 20 ⟨193, 34, 193, 35⟩) (.int 3 ⟨193, 38, 193, 39⟩) ⟨193, 34, 193, 39⟩) ⟨193, 33, 193, 39⟩ ⟨193, 31, 193, 40⟩, .sliT (.loc 29 ⟨193, 42, 193, 43⟩) (.bin .Mod (.loc 20 ⟨193, 45, 193, 46⟩) (.int 4 ⟨193, 49, 193, 50⟩) ⟨193, 45, 193, 50⟩) ⟨193, 44, 193, 50⟩ ⟨193, 42, 193, 51⟩, .loc 20 ⟨193, 53, 193, 54⟩] ⟨193, 30, 193, 55⟩] ⟨193, 16, 193, 56⟩, .sliT (.loc 18 ⟨193, 58, 193, 59⟩) (.bin .Mod (.loc 20 ⟨193, 61, 193, 62⟩) (.int 3 ⟨193, 65, 193, 66⟩) ⟨193, 61, 193, 66⟩) ⟨193, 60, 193, 66⟩ ⟨193, 58, 193, 67⟩, .neg 1 ⟨193, 70, 193, 71⟩ ⟨193, 69, 193, 71⟩, .sliT (.loc 29 ⟨193, 73, 193, 74⟩) (.bin .Mod (.loc 20 ⟨193, 76, 193, 77⟩) (.int 4 ⟨193, 80, 193, 81⟩) ⟨193, 76, 193, 81⟩) ⟨193, 75, 193, 81⟩ ⟨193, 73, 193, 82⟩, .loc 23 ⟨193, 84, 193, 87⟩] ⟨193, 15, 193, 88⟩) ⟨193, 8, 193, 88⟩] [] ⟨191, 4, 193, 88⟩,
   .ife (.cmp .Eq (.loc 16 ⟨194, 7, 194, 11⟩) (.str (Str.ofString "nop") [110, 111, 112] ⟨194, 15, 194, 20⟩) ⟨194, 7, 194, 20⟩) [.ret (.tup [.tup [.str (Str.ofString "nop") [110, 111, 112] ⟨195, 17, 195, 22⟩] ⟨195, 16, 195, 24⟩, .lst [] ⟨195, 26, 195, 28⟩, .neg 1 ⟨195, 31, 195, 32⟩ ⟨195, 30, 195, 32⟩, .lst [] ⟨195, 34, 195, 36⟩, .str (Str.ofString "nop") [110, 111, 112] ⟨195, 38, 195, 43⟩] ⟨195, 15, 195, 44⟩) ⟨195, 8, 195, 44⟩] [] ⟨194, 4, 195, 44⟩,
   .ife (.cmp .Eq (.loc 16 ⟨196, 7, 196, 11⟩) (.str (Str.ofString "keep") [107, 101, 101, 112] ⟨196, 15, 196, 21⟩) ⟨196, 7, 196, 21⟩) [.ret (.tup [.tup [.str (Str.ofString "keep") [107, 101, 101, 112] ⟨197, 17, 197, 23⟩, .loc 20 ⟨197, 25, 197, 26⟩, .sub (.loc 18 ⟨197, 28, 197, 29⟩) (.int 0 ⟨197, 30, 197, 31⟩) ⟨197, 28, 197, 32⟩] ⟨197, 16, 197, 33⟩, .sliT (.loc 18 ⟨197, 35, 197, 36⟩) (.int 1 ⟨197, 38, 197, 39⟩) ⟨197, 37, 197, 39⟩ ⟨197, 35, 197, 40⟩, .neg 1 ⟨197, 43, 197, 44⟩ ⟨197, 42, 197, 44⟩, .lst [] ⟨197, 46, 197, 48⟩, .call 14 [.lst [.str (Str.ofString "keep ") [107, 101, 101, 112, 32] ⟨197, 60, 197, 67⟩, .loc 20 ⟨197, 69, 197, 70⟩, .str (Str.ofString " r") [32, 114] ⟨197, 72, 197, 76⟩, .sub (.loc 18 ⟨197, 78, 197, 79⟩) (.int 0 ⟨197, 80, 197, 81⟩) ⟨197, 78, 197, 82⟩] ⟨197, 59, 197, 83⟩] ⟨197, 50, 197, 58⟩ ⟨197, 50, 197, 84⟩] ⟨197, 15, 197, 85⟩) ⟨197, 8, 197, 85⟩] [] ⟨196, 4, 197, 85⟩,
   .asT [(2, ⟨198, 4, 198, 6⟩), (30, ⟨198, 8, 198, 13⟩), (23, ⟨198, 15, 198, 18⟩)] (.call 15 [.loc 16 ⟨198, 30, 198, 34⟩, .loc 18 ⟨198, 36, 198, 37⟩, .loc 20 ⟨198, 39, 198, 40⟩] ⟨198, 21, 198, 29⟩ ⟨198, 21, 198, 41⟩) ⟨198, 4, 198, 18⟩ ⟨198, 4, 198, 41⟩,
   .ret (.tup [.loc 2 ⟨199, 12, 199, 14⟩, .loc 30 ⟨199, 16, 199, 21⟩, .sub (.loc 18 ⟨199, 23, 199, 24⟩) (.int 0 ⟨199, 25, 199, 26⟩) ⟨199, 23, 199, 27⟩, .lst [] ⟨199, 29, 199, 31⟩, .loc 23 ⟨199, 33, 199, 36⟩] ⟨199, 11, 199, 37⟩) ⟨199, 4, 199, 37⟩]
noncomputable def f_law_parts : FD := { ps := [16, 18, 29, 20], cs := [], body := b_law_parts }
noncomputable def b_law_turned_right : List S :=
  [.asT [(2, ⟨201, 4, 201, 6⟩), (30, ⟨201, 8, 201, 13⟩), (26, ⟨201, 15, 201, 19⟩), (28, ⟨201, 21, 201, 26⟩), (23, ⟨201, 28, 201, 31⟩)] (.call 17 [.loc 16 ⟨201, 45, 201, 49⟩, .loc 18 ⟨201, 51, 201, 52⟩, .loc 29 ⟨201, 54, 201, 55⟩, .loc 20 ⟨201, 57, 201, 58⟩] ⟨201, 34, 201, 44⟩ ⟨201, 34, 201, 59⟩) ⟨201, 4, 201, 31⟩ ⟨201, 4, 201, 59⟩,
   .asL 31 (.repr (.loc 2 ⟨202, 18, 202, 20⟩) ⟨202, 13, 202, 17⟩ ⟨202, 13, 202, 21⟩) ⟨202, 4, 202, 10⟩ ⟨202, 4, 202, 21⟩,
   .asK 32 (.get (.fre 12 ⟨203, 13, 203, 20⟩) (.cvr 5 ⟨203, 25, 203, 28⟩) (.cvr 5 ⟨203, 30, 203, 33⟩) ⟨203, 13, 203, 24⟩ ⟨203, 13, 203, 34⟩) 5 ⟨203, 39, 203, 42⟩ (.loc 18 ⟨203, 46, 203, 47⟩) { kind := .function, names := [(Str.ofString ".0", .local), (Str.ofString "one", .local), (Str.ofString "mapping", .free)], isGenerator := false, isCoroutine := false, more := [] } ⟨203, 4, 203, 9⟩ ⟨203, 12, 203, 48⟩ ⟨203, 4, 203, 48⟩,
   .ife (.or [.cmp .NotEq (.call 4 [.loc 2 ⟨204, 18, 204, 20⟩, .sliT (.loc 33 ⟨204, 22, 204, 27⟩) (.len (.loc 28 ⟨204, 33, 204, 38⟩) ⟨204, 29, 204, 32⟩ ⟨204, 29, 204, 39⟩) ⟨204, 28, 204, 39⟩ ⟨204, 22, 204, 40⟩] ⟨204, 7, 204, 17⟩ ⟨204, 7, 204, 41⟩) (.sub (.call 17 [.loc 16 ⟨204, 56, 204, 60⟩, .loc 18 ⟨204, 62, 204, 63⟩, .loc 33 ⟨204, 65, 204, 70⟩, .loc 20 ⟨204, 72, 204, 73⟩] ⟨204, 45, 204, 55⟩ ⟨204, 45, 204, 74⟩) (.int 0 ⟨204, 75, 204, 76⟩) ⟨204, 45, 204, 77⟩) ⟨204, 7, 204, 77⟩, .cmp .NotEq (.call 4 [.loc 2 ⟨204, 92, 204, 94⟩, .loc 28 ⟨204, 96, 204, 101⟩] ⟨204, 81, 204, 91⟩ ⟨204, 81, 204, 102⟩) (.loc 2 ⟨204, 106, 204, 108⟩) ⟨204, 81, 204, 108⟩] ⟨204, 7, 204, 108⟩) [.ret (.bool false ⟨205, 15, 205, 20⟩) ⟨205, 8, 205, 20⟩] [] ⟨204, 4, 205, 20⟩,
   .asL 34 (.sub (.call 17 [.loc 16 ⟨206, 23, 206, 27⟩, .loc 32 ⟨206, 29, 206, 34⟩, .loc 29 ⟨206, 36, 206, 37⟩, .loc 20 ⟨206, 39, 206, 40⟩] ⟨206, 12, 206, 22⟩ ⟨206, 12, 206, 41⟩) (.int 0 ⟨206, 42, 206, 43⟩) ⟨206, 12, 206, 44⟩) ⟨206, 4, 206, 9⟩ ⟨206, 4, 206, 44⟩,
   .ife (.or [.cmp .NotEq (.call 8 [.loc 2 ⟨207, 22, 207, 24⟩, .cel 12 ⟨207, 26, 207, 33⟩] ⟨207, 7, 207, 21⟩ ⟨207, 7, 207, 34⟩) (.loc 34 ⟨207, 38, 207, 43⟩) ⟨207, 7, 207, 43⟩, .cmp .NotEq (.call 8 [.loc 2 ⟨207, 62, 207, 64⟩, .emp ⟨207, 66, 207, 68⟩] ⟨207, 47, 207, 61⟩ ⟨207, 47, 207, 69⟩) (.loc 2 ⟨207, 73, 207, 75⟩) ⟨207, 47, 207, 75⟩] ⟨207, 7, 207, 75⟩) [.ret (.bool false ⟨208, 15, 208, 20⟩) ⟨208, 8, 208, 20⟩] [] ⟨207, 4, 208, 20⟩,
   .asL 35 (.call 6 [.loc 2 ⟨209, 22, 209, 24⟩, .cel 12 ⟨209, 26, 209, 33⟩] ⟨209, 11, 209, 21⟩ ⟨209, 11, 209, 34⟩) ⟨209, 4, 209, 8⟩ ⟨209, 4, 209, 34⟩,
   .ife (.or [.cmp .NotEq (.call 0 [.loc 35 ⟨210, 16, 210, 20⟩] ⟨210, 7, 210, 15⟩ ⟨210, 7, 210, 21⟩) (.cmpr (.get (.fre 12 ⟨210, 26, 210, 33⟩) (.cvr 5 ⟨210, 38, 210, 41⟩) (.cvr 5 ⟨210, 43, 210, 46⟩) ⟨210, 26, 210, 37⟩ ⟨210, 26, 210, 47⟩) 5 ⟨210, 52, 210, 55⟩ (.loc 30 ⟨210, 59, 210, 64⟩) [] { kind := .function, names := [(Str.ofString ".0", .local), (Str.ofString "one", .local), (Str.ofString "mapping", .free)], isGenerator := false, isCoroutine := false, more := [] } ⟨210, 25, 210, 65⟩) ⟨210, 7, 210, 65⟩, .cmp .NotEq (.call 1 [.loc 35 ⟨210, 79, 210, 83⟩] ⟨210, 69, 210, 78⟩ ⟨210, 69, 210, 84⟩) (.loc 26 ⟨210, 88, 210, 92⟩) ⟨210, 69, 210, 92⟩, .cmp .NotEq (.call 2 [.loc 35 ⟨210, 105, 210, 109⟩] ⟨210, 96, 210, 104⟩ ⟨210, 96, 210, 110⟩) (.loc 28 ⟨210, 114, 210, 119⟩) ⟨210, 96, 210, 119⟩] ⟨210, 7, 210, 119⟩) [.ret (.bool false ⟨211, 15, 211, 20⟩) ⟨211, 8, 211, 20⟩] [] ⟨210, 4, 211, 20⟩,
   .ife (.cmp .NotEq (.call 7 [.loc 35 ⟨212, 18, 212, 22⟩, .get (.cel 12 ⟨212, 24, 212, 31⟩) (.loc 26 ⟨212, 36, 212, 40⟩) (.loc 26 ⟨212, 42, 212, 46⟩) ⟨212, 24, 212, 35⟩ ⟨212, 24, 212, 47⟩] ⟨212, 7, 212, 17⟩ ⟨212, 7, 212, 48⟩) (.loc 34 ⟨212, 52, 212, 57⟩) ⟨212, 7, 212, 57⟩) [.ret (.bool false ⟨213, 15, 213, 20⟩) ⟨213, 8, 213, 20⟩] [] ⟨212, 4, 213, 20⟩,
   .asL 36 (.call 7 [.loc 2 ⟨214, 22, 214, 24⟩, .int 99 ⟨214, 26, 214, 28⟩] ⟨214, 11, 214, 21⟩ ⟨214, 11, 214, 29⟩) ⟨214, 4, 214, 8⟩ ⟨214, 4, 214, 29⟩,
   .ife (.or [.cmp .NotEq (.call 1 [.loc 36 ⟨215, 17, 215, 21⟩] ⟨215, 7, 215, 16⟩ ⟨215, 7, 215, 22⟩) (.ife (.cmp .GtE (.loc 26 ⟨215, 33, 215, 37⟩) (.int 0 ⟨215, 41, 215, 42⟩) ⟨215, 33, 215, 42⟩) (.int 99 ⟨215, 27, 215, 29⟩) (.neg 1 ⟨215, 49, 215, 50⟩ ⟨215, 48, 215, 50⟩) ⟨215, 27, 215, 50⟩) ⟨215, 7, 215, 51⟩, .cmp .NotEq (.call 0 [.loc 36 ⟨215, 64, 215, 68⟩] ⟨215, 55, 215, 63⟩ ⟨215, 55, 215, 69⟩) (.loc 30 ⟨215, 73, 215, 78⟩) ⟨215, 55, 215, 78⟩, .cmp .NotEq (.call 7 [.loc 36 ⟨215, 93, 215, 97⟩, .loc 26 ⟨215, 99, 215, 103⟩] ⟨215, 82, 215, 92⟩ ⟨215, 82, 215, 104⟩) (.loc 2 ⟨215, 108, 215, 110⟩) ⟨215, 82, 215, 110⟩] ⟨215, 7, 215, 110⟩) [.ret (.bool false ⟨216, 15, 216, 20⟩) ⟨216, 8, 216, 20⟩] [] ⟨215, 4, 216, 20⟩,
   .ret (.cmp .Eq (.repr (.loc 2 ⟨217, 16, 217, 18⟩) ⟨217, 11, 217, 15⟩ ⟨217, 11, 217, 19⟩) (.loc 31 ⟨217, 23, 217, 29⟩) ⟨217, 11, 217, 29⟩) ⟨217, 4, 217, 29⟩]
noncomputable def f_law_turned_right : FD := { ps := [16, 18, 29, 20, 12, 33], cs := [12], body := b_law_turned_right }
noncomputable def t_4 : S :=
  .asT [(2, ⟨227, 8, 227, 10⟩), (30, ⟨227, 12, 227, 17⟩), (26, ⟨227, 19, 227, 23⟩), (28, ⟨227, 25, 227, 30⟩), (23, ⟨227, 32, 227, 35⟩)] (.call 17 [.loc 16 ⟨227, 49, 227, 53⟩, .loc 18 ⟨227, 55, 227, 56⟩, .loc 29 ⟨227, 58, 227, 59⟩, .cel 20 ⟨227, 61, 227, 62⟩] ⟨227, 38, 227, 48⟩ ⟨227, 38, 227, 63⟩) ⟨227, 8, 227, 35⟩ ⟨227, 8, 227, 63⟩
noncomputable def t_5 : S :=
  .ife (.or [.cmp .NotEq (.call 0 [.loc 2 ⟨228, 20, 228, 22⟩] ⟨228, 11, 228, 19⟩ ⟨228, 11, 228, 23⟩) (.loc 30 ⟨228, 27, 228, 32⟩) ⟨228, 11, 228, 32⟩, .cmp .NotEq (.call 1 [.loc 2 ⟨228, 46, 228, 48⟩] ⟨228, 36, 228, 45⟩ ⟨228, 36, 228, 49⟩) (.loc 26 ⟨228, 53, 228, 57⟩) ⟨228, 36, 228, 57⟩, .cmp .NotEq (.call 2 [.loc 2 ⟨228, 70, 228, 72⟩] ⟨228, 61, 228, 69⟩ ⟨228, 61, 228, 73⟩) (.loc 28 ⟨228, 77, 228, 82⟩) ⟨228, 61, 228, 82⟩] ⟨228, 11, 228, 82⟩) [.ret (.bool false ⟨229, 19, 229, 24⟩) ⟨229, 12, 229, 24⟩] [] ⟨228, 8, 229, 24⟩
noncomputable def t_6 : S :=
  .ife (.cmp .NotEq (.call 3 [.loc 2 ⟨230, 19, 230, 21⟩] ⟨230, 11, 230, 18⟩ ⟨230, 11, 230, 22⟩) (.inn true (.loc 16 ⟨230, 27, 230, 31⟩) [.str (Str.ofString "jump") [106, 117, 109, 112] ⟨230, 40, 230, 46⟩, .str (Str.ofString "sign") [115, 105, 103, 110] ⟨230, 48, 230, 54⟩, .str (Str.ofString "agoto") [97, 103, 111, 116, 111] ⟨230, 56, 230, 63⟩, .str (Str.ofString "return") [114, 101, 116, 117, 114, 110] ⟨230, 65, 230, 73⟩, .str (Str.ofString "stop") [115, 116, 111, 112] ⟨230, 75, 230, 81⟩] ⟨230, 39, 230, 82⟩ ⟨230, 27, 230, 82⟩) ⟨230, 11, 230, 83⟩) [.ret (.bool false ⟨231, 19, 231, 24⟩) ⟨231, 12, 231, 24⟩] [] ⟨230, 8, 231, 24⟩
noncomputable def t_8 : S :=
  .ife (.not (.call 18 [.loc 16 ⟨233, 33, 233, 37⟩, .loc 18 ⟨233, 39, 233, 40⟩, .loc 29 ⟨233, 42, 233, 43⟩, .cel 20 ⟨233, 45, 233, 46⟩, .loc 12 ⟨233, 48, 233, 55⟩, .cmpr (.bin .Add (.cvr 37 ⟨233, 58, 233, 62⟩) (.int 20 ⟨233, 65, 233, 67⟩) ⟨233, 58, 233, 67⟩) 37 ⟨233, 72, 233, 76⟩ (.loc 29 ⟨233, 80, 233, 81⟩) [] { kind := .function, names := [(Str.ofString ".0", .local), (Str.ofString "goal", .local)], isGenerator := false, isCoroutine := false, more := [] } ⟨233, 57, 233, 82⟩] ⟨233, 15, 233, 32⟩ ⟨233, 15, 233, 83⟩) ⟨233, 11, 233, 83⟩) [.ret (.bool false ⟨234, 19, 234, 24⟩) ⟨234, 12, 234, 24⟩] [] ⟨233, 8, 234, 24⟩
noncomputable def tab (i : Nat) : Option FD := match i with
  | 0 => some f_reads_of
  | 1 => some f_writes_of
  | 2 => some f_jumps_of
  | 3 => some f_goes_on
  | 4 => some f_with_jumps
  | 5 => some f_read_part
  | 6 => some f_with_reads
  | 7 => some f_with_write
  | 8 => some f_with_registers
  | 9 => some f_show_part
  | 10 => some f_show_op
  | 12 => some f_law_words
  | 14 => some f_law_say
  | 15 => some f_law_two
  | 16 => some f_law_list
  | 17 => some f_law_parts
  | 18 => some f_law_turned_right
  | _ => none
noncomputable def tb : Tb := { shapes := shapesT, leaving := leavingT, fn := tab }

end RegLaw

namespace RegLaw
open PySem PySem.Calls PySem.W PyProof.Rows

structure Fx where
  h₀ : Heap
  L : Addr
  m : Str → Option Value
  keep : List (Addr × Obj)
  s₀ : Shared
structure Hp (F : Fx) (fz : List (Addr × Obj)) (s : Shared) : Prop where
  fr : Fr F.h₀ F.L s.heap F.m
  nw : News F.h₀ F.L s.heap (fz ++ F.keep)
  nd : ((fz ++ F.keep).map (·.1)).Nodup
  sh : ∃ h tk, s = { F.s₀ with heap := h, toks := tk }
noncomputable def No : Value → Shared → Prop := fun _ _ => False

section
variable {F : Fx} {fz : List (Addr × Obj)} {s : Shared}
theorem Hp.sub (H : Hp F fz s) : Sub fz (fz ++ F.keep) := fun _ h => List.mem_append_left _ h
theorem Hp.tok (H : Hp F fz s) (t : Nat) : Hp F fz { s with toks := t } := by
  obtain ⟨h, tk, e⟩ := H.sh
  exact ⟨H.fr, H.nw, H.nd, h, t, by rw [e]⟩
theorem Hp.at (H : Hp F fz s) {h' : Heap} {t : Nat} (F' : Fr F.h₀ F.L h' F.m) (N' : News F.h₀ F.L h' (fz ++ F.keep)) : Hp F fz { s with heap := h', toks := t } := by
  obtain ⟨h, tk, e⟩ := H.sh
  exact ⟨F', N', H.nd, h', t, by rw [e]⟩
theorem Hp.at' (H : Hp F fz s) {h' : Heap} (F' : Fr F.h₀ F.L h' F.m) (N' : News F.h₀ F.L h' (fz ++ F.keep)) : Hp F fz { s with heap := h' } := H.at (t := s.toks) F' N'
theorem Hp.lt (H : Hp F fz s) : ∀ p ∈ fz ++ F.keep, p.1 < s.heap.objs.size := fun p hp => Heap.lt_size (H.nw p hp).1
theorem Hp.add (H : Hp F fz s) {h' : Heap} {t : Nat} {a : Addr} {o : Obj} (F' : Fr F.h₀ F.L h' F.m) (N' : News F.h₀ F.L h' ((a, o) :: (fz ++ F.keep))) (ha : ∀ p ∈ fz ++ F.keep, p.1 < a) : Hp F ((a, o) :: fz) { s with heap := h', toks := t } := by
  obtain ⟨h, tk, e⟩ := H.sh
  refine ⟨F', by rw [List.cons_append]; exact N', ?_, h', t, by rw [e]⟩
  rw [List.cons_append, List.map_cons, List.nodup_cons]
  refine ⟨fun hm => ?_, H.nd⟩
  obtain ⟨p, hp, e'⟩ := List.mem_map.mp hm
  have := ha p hp
  rw [e'] at this
  exact Nat.lt_irrefl _ this
theorem Hp.add' (H : Hp F fz s) {h' : Heap} {a : Addr} {o : Obj} (F' : Fr F.h₀ F.L h' F.m) (N' : News F.h₀ F.L h' ((a, o) :: (fz ++ F.keep))) (ha : ∀ p ∈ fz ++ F.keep, p.1 < a) : Hp F ((a, o) :: fz) { s with heap := h' } := H.add (t := s.toks) F' N' ha
theorem Hp.new (H : Hp F fz s) {h' : Heap} {o : Obj} {k : Nat} (F' : Fr F.h₀ F.L h' F.m) (N' : News F.h₀ F.L h' ((s.heap.objs.size + k, o) :: (fz ++ F.keep))) : Hp F ((s.heap.objs.size + k, o) :: fz) { s with heap := h' } :=
  H.add' F' N' fun p hp => Nat.lt_of_lt_of_le (H.lt p hp) (Nat.le_add_right _ _)
theorem Hp.get (H : Hp F fz s) {a : Addr} {o : Obj} (h : (a, o) ∈ fz) : s.heap.get? a = some o := H.nw.get (H.sub _ h)
theorem Hp.lst (H : Hp F fz s) {a : Addr} {o : Obj} {vs : List Value} (h : (a, o) ∈ fz) (k : SeqObj "list" vs o) : s.heap.IsList a vs.toArray := by
  obtain ⟨n, rfl⟩ := k
  exact ⟨_, H.get h, rfl, n, rfl⟩
theorem Hp.tup (H : Hp F fz s) {a : Addr} {o : Obj} {vs : List Value} (h : (a, o) ∈ fz) (k : SeqObj "tuple" vs o) : IsTup s.heap a vs.toArray := by
  obtain ⟨n, rfl⟩ := k
  exact ⟨_, H.get h, rfl, n, rfl⟩
end

section
variable (prog : Program) (w : World) (V : Vl) (F : Fx) (A : Around)
/- a tree that yields what reads as d, the frame's ledger only grown -/
noncomputable def EvV (t : Sem Value) (fz₀ : List (Addr × Obj)) (d : SD) : Prop := ∀ fz s (Q : Value → Shared → Prop), Sub fz₀ fz → Hp F fz s →
  (∀ v s' fz', Sub fz fz' → Hp F fz' s' → VIn V fz' v d → Q v s') → wpAny (model prog w) A t Q No s
noncomputable def EvB (t : Sem Bool) (fz₀ : List (Addr × Obj)) (b : Bool) : Prop := ∀ fz s (Q : Bool → Shared → Prop), Sub fz₀ fz → Hp F fz s →
  (∀ s' fz', Sub fz fz' → Hp F fz' s' → Q b s') → wpAny (model prog w) A t Q No s
noncomputable def EvL (t : Sem (List Value)) (fz₀ : List (Addr × Obj)) (ds : List SD) : Prop := ∀ fz s (Q : List Value → Shared → Prop), Sub fz₀ fz → Hp F fz s →
  (∀ vs s' fz', Sub fz fz' → Hp F fz' s' → VAll V fz' vs ds → Q vs s') → wpAny (model prog w) A t Q No s
end

section
variable {prog : Program} {w : World} {V : Vl} {F : Fx} {A : Around} {fz₀ : List (Addr × Obj)}
theorem EvV.mono {t : Sem Value} {fz₁ : List (Addr × Obj)} {d : SD} (h : EvV prog w V F A t fz₀ d) (hs : Sub fz₀ fz₁) : EvV prog w V F A t fz₁ d :=
  fun fz s Q h1 H k => h fz s Q (hs.trans h1) H k
/- an answer that needs no more than a token -/
theorem EvV.pure1 {t : Sem Value} {d : SD} (h : ∀ (s : Shared) (Q : Value → Shared → Prop), (∀ v k, VIn V fz₀ v d → Q v { s with toks := k }) → wpAny (model prog w) A t Q No s) : EvV prog w V F A t fz₀ d :=
  fun fz s Q hs H k => h s Q fun v t hv => k v _ fz (Sub.refl _) (H.tok t) (hv.mono hs)

theorem ev_bin {a b : Expr} {op : Operator} {p : Pos} {env : Env} {x y d : SD} (ha : EvV prog w V F A (eval a env) fz₀ x) (hb : EvV prog w V F A (eval b env) fz₀ y)
    (h : ∀ fz u v, Sub fz₀ fz → VIn V fz u x → VIn V fz v y → EvV prog w V F A (binaryOp op u v) fz d) : EvV prog w V F A (eval (.BinOp a op b p) env) fz₀ d :=
  fun fz s Q hs H k => wpAny_BinOp (ha fz s _ hs H fun u s₁ fz₁ h1 H₁ hu => hb fz₁ s₁ _ (hs.trans h1) H₁ fun v s₂ fz₂ h2 H₂ hv =>
    h fz₂ u v ((hs.trans h1).trans h2) (hu.mono h2) hv fz₂ s₂ _ (Sub.refl _) H₂ fun r s₃ fz₃ h3 H₃ hr => k r s₃ fz₃ ((h1.trans h2).trans h3) H₃ hr)
theorem ev_cmp {a b : Expr} {op : CmpOp} {p : Pos} {env : Env} {x y d : SD} (ha : EvV prog w V F A (eval a env) fz₀ x) (hb : EvV prog w V F A (eval b env) fz₀ y)
    (h : ∀ fz u v, Sub fz₀ fz → VIn V fz u x → VIn V fz v y → EvV prog w V F A (compareOp op u v) fz d) (hm : behindInMarks op b = false) : EvV prog w V F A (eval (.Compare a [op] [b] p) env) fz₀ d :=
  fun fz s Q hs H k => wpAny_Compare1 (hm := hm) (ha fz s _ hs H fun u s₁ fz₁ h1 H₁ hu => hb fz₁ s₁ _ (hs.trans h1) H₁ fun v s₂ fz₂ h2 H₂ hv =>
    h fz₂ u v ((hs.trans h1).trans h2) (hu.mono h2) hv fz₂ s₂ _ (Sub.refl _) H₂ fun r s₃ fz₃ h3 H₃ hr => k r s₃ fz₃ ((h1.trans h2).trans h3) H₃ hr)
theorem eb_cmp {a b : Expr} {op : CmpOp} {p : Pos} {env : Env} {x y : SD} {c : Bool} {whole : Sem Value} (ha : EvV prog w V F A (eval a env) fz₀ x) (hb : EvV prog w V F A (eval b env) fz₀ y)
    (h : ∀ fz u v, Sub fz₀ fz → VIn V fz u x → VIn V fz v y → EvV prog w V F A (compareOp op u v) fz (.bool c)) (hm : behindInMarks op b = false) : EvB prog w F A (isTrue (.Compare a [op] [b] p) env whole) fz₀ c :=
  fun fz s Q hs H k => wpAny_isTrue_Compare1 (hm := hm) (ha fz s _ hs H fun u s₁ fz₁ h1 H₁ hu => hb fz₁ s₁ _ (hs.trans h1) H₁ fun v s₂ fz₂ h2 H₂ hv =>
    h fz₂ u v ((hs.trans h1).trans h2) (hu.mono h2) hv fz₂ s₂ _ (Sub.refl _) H₂ fun r s₃ fz₃ h3 H₃ hr => by
      cases hr
      exact wpAny_truthy_bool (k s₃ fz₃ ((h1.trans h2).trans h3) H₃))
theorem ev_sub {a b : Expr} {p : Pos} {env : Env} {x y d : SD} (ha : EvV prog w V F A (eval a env) fz₀ x) (hb : EvV prog w V F A (eval b env) fz₀ y)
    (h : ∀ fz u v, Sub fz₀ fz → VIn V fz u x → VIn V fz v y → EvV prog w V F A (subscriptTail a b u v) fz d) : EvV prog w V F A (eval (.Subscript a b p) env) fz₀ d :=
  fun fz s Q hs H k => Subscript_ (ha fz s _ hs H fun u s₁ fz₁ h1 H₁ hu => hb fz₁ s₁ _ (hs.trans h1) H₁ fun v s₂ fz₂ h2 H₂ hv =>
    h fz₂ u v ((hs.trans h1).trans h2) (hu.mono h2) hv fz₂ s₂ _ (Sub.refl _) H₂ fun r s₃ fz₃ h3 H₃ hr => k r s₃ fz₃ ((h1.trans h2).trans h3) H₃ hr)
theorem ev_if {t a b : Expr} {p : Pos} {env : Env} {c : Bool} {d : SD} (ht : EvB prog w F A (isTrue t env (eval t env)) fz₀ c) (h : EvV prog w V F A (eval (if c then a else b) env) fz₀ d) :
    EvV prog w V F A (eval (.IfExp t a b p) env) fz₀ d :=
  fun fz s Q hs H k => IfExp_ (ht fz s _ hs H fun s₁ fz₁ h1 H₁ => by
    cases c
    · exact h fz₁ s₁ Q (hs.trans h1) H₁ fun r s₂ fz₂ h2 H₂ hr => k r s₂ fz₂ (h1.trans h2) H₂ hr
    · exact h fz₁ s₁ Q (hs.trans h1) H₁ fun r s₂ fz₂ h2 H₂ hr => k r s₂ fz₂ (h1.trans h2) H₂ hr)

/- ints -/
theorem op_add_int {a b : IE} {t u : Tok} {e : IE} {fz : List (Addr × Obj)} (hV : V.Ok) (h : IE.add a b = some e) : EvV prog w V F A (binaryOp .Add (.int (a.ev V) t) (.int (b.ev V) u)) fz (.int e) := by
  have he : a.ev V + b.ev V = e.ev V := by
    unfold IE.add at h
    split at h
    · rename_i hb
      cases h
      have : b.v = 0 := Nat.eq_of_beq_eq_true hb
      simp only [IE.ev, this, hV.zero]; omega
    · split at h
      · rename_i ha
        cases h
        have : a.v = 0 := Nat.eq_of_beq_eq_true ha
        simp only [IE.ev, this, hV.zero]; omega
      · cases h
  exact .pure1 fun s Q k => add_int (by rw [he]; exact k _ _ (.int e _))
theorem natOf_is {d : SD} {n : Nat} (h : natOf d = some n) : d = .int ⟨0, .ofNat n⟩ ∧ n < 1000 := by
  unfold natOf at h
  split at h
  · rename_i e
    split at h
    · rename_i hv
      split at h
      · rename_i k hk
        split at h
        · rename_i hb
          cases h
          obtain ⟨v, kk⟩ := e
          have : v = 0 := Nat.eq_of_beq_eq_true hv
          subst this
          simp only at hk
          subst hk
          exact ⟨rfl, Nat.le_of_ble_eq_true hb⟩
        · cases h
      · cases h
    · cases h
  · cases h
theorem ev_const (hV : V.Ok) (n : Int) : (IE.mk 0 n).ev V = n := by simp only [IE.ev, hV.zero]; omega
end
end RegLaw

namespace RegLaw
open PySem PySem.Calls PySem.W PyProof.Rows

/- small facts of the evaluator's own words -/
theorem ieq_is {a b : Int} (h : ieq a b = true) : a = b := by
  unfold ieq at h
  split at h
  · rw [Nat.eq_of_beq_eq_true h]
  · rw [Nat.eq_of_beq_eq_true h]
  · cases h
theorem ieq_no {a b : Int} (h : ieq a b = false) : a ≠ b := by
  rintro rfl
  unfold ieq at h
  cases a <;> simp at h
theorem ilt_is (a b : Int) : ilt a b = true ↔ a < b := by
  unfold ilt
  cases a with
  | ofNat m => cases b with
    | ofNat n => simp [Nat.blt_eq]
    | negSucc n => simp; omega
  | negSucc m => cases b with
    | ofNat n => simp; omega
    | negSucc n => simp [Nat.blt_eq]; omega
theorem small_is {k : Int} (h : small k = true) : -1000 ≤ k ∧ k < 1000 := by
  unfold small at h
  split at h
  · rw [Nat.blt_eq] at h; simp; omega
  · rw [Nat.blt_eq] at h; omega
theorem lbeq_is : ∀ {a b : List Nat}, lbeq a b = true ↔ a = b
  | [], [] => by simp [lbeq]
  | [], _ :: _ => by simp [lbeq]
  | _ :: _, [] => by simp [lbeq]
  | a :: r, b :: t => by
    unfold lbeq
    split
    · rename_i h
      rw [Nat.eq_of_beq_eq_true h, lbeq_is]; simp
    · rename_i h
      have := Nat.ne_of_beq_eq_false h
      simp [this]
theorem szL_is {α : Type} {l : List α} (h : szL l = true) : l.length < 1000 := by
  unfold szL at h
  rwa [Nat.blt_eq] at h
section
variable {V : Vl}
theorem ev_bound (hV : V.Ok) {e : IE} (h : small e.k = true) : -1000 ≤ e.ev V ∧ e.ev V < 2000 := by
  have h1 := small_is h
  have h2 := hV.lo e.v
  have h3 := hV.hi e.v
  unfold IE.ev
  omega
theorem IE.lt_is (hV : V.Ok) {a b : IE} {r : Bool} (h : IE.lt a b = some r) : decide (a.ev V < b.ev V) = r := by
  unfold IE.lt at h
  have la := hV.lo a.v
  have lb := hV.lo b.v
  split at h
  · rename_i e
    have e := Nat.eq_of_beq_eq_true e
    cases h
    simp only [IE.ev, e]
    rw [Bool.eq_iff_iff, ilt_is, decide_eq_true_eq]
    omega
  · split at h
    · rename_i e
      have e := Nat.eq_of_beq_eq_true e
      split at h
      · cases h
      · rename_i q
        cases h
        have q' : ¬ a.k < b.k := fun z => by rw [(ilt_is _ _).mpr z] at q; cases q
        simp only [IE.ev, e, hV.zero, decide_eq_false_iff_not]
        omega
    · split at h
      · rename_i e
        have e := Nat.eq_of_beq_eq_true e
        split at h
        · rename_i q
          cases h
          have q' := (ilt_is _ _).mp q
          simp only [IE.ev, e, hV.zero, decide_eq_true_eq]
          omega
        · cases h
      · cases h
theorem IE.eq_is {a b : IE} {r : Bool} (h : IE.eq a b = some r) : (a.ev V == b.ev V) = r := by
  unfold IE.eq at h
  split at h
  · rename_i e
    have e := Nat.eq_of_beq_eq_true e
    cases h
    simp only [IE.ev, e]
    cases q : ieq a.k b.k with
    | true => rw [ieq_is q]; simp
    | false =>
      have := ieq_no q
      rw [beq_eq_false_iff_ne]; omega
  · cases h
theorem Pc.same_is {a b : Pc} (h : Pc.same a b = true) : a = b := by
  unfold Pc.same at h
  split at h
  · rw [lbeq_is.mp h]
  · rename_i a b
    rw [Bool.and_eq_true] at h
    obtain ⟨v, k⟩ := a
    obtain ⟨v', k'⟩ := b
    have h1 : v = v' := Nat.eq_of_beq_eq_true h.1
    have h2 : k = k' := ieq_is h.2
    rw [h1, h2]
  · cases h
theorem all2_is {α : Type} {f : α → α → Bool} (hf : ∀ a b, f a b = true → a = b) : ∀ {a b : List α}, all2 f a b = true → a = b
  | [], [], _ => rfl
  | [], _ :: _, h => by simp [all2] at h
  | _ :: _, [], h => by simp [all2] at h
  | a :: r, b :: t, h => by
    unfold all2 at h
    split at h
    · rename_i e
      rw [hf a b e, all2_is hf h]
    · cases h
theorem SD.same_is : ∀ (n : Nat) {a b : SD}, SD.same n a b = true → a = b
  | 0, _, _, h => by simp [SD.same] at h
  | n + 1, a, b, h => by
    unfold SD.same at h
    split at h
    · rfl
    · rw [eq_of_beq h]
    · rename_i a b
      rw [Bool.and_eq_true] at h
      obtain ⟨v, k⟩ := a
      obtain ⟨v', k'⟩ := b
      have h1 : v = v' := Nat.eq_of_beq_eq_true h.1
      have h2 : k = k' := ieq_is h.2
      rw [h1, h2]
    · rw [all2_is (fun _ _ => Pc.same_is) h]
    · rw [SD.same_is n h]
    · rw [all2_is (fun _ _ => SD.same_is n) h]
    · rw [all2_is (fun _ _ => SD.same_is n) h]
    · cases h

theorem litOf_is {ps : List Pc} {l : List Nat} (h : litOf ps = some l) : csOf V ps = l := by
  unfold litOf at h
  split at h
  · cases h; rfl
  · cases h; simp [csOf, Pc.cs]
  · cases h
theorem mkLit_is (l : List Nat) : csOf V (mkLit l) = l := by
  unfold mkLit
  split <;> simp [csOf, Pc.cs]
theorem cat_is : ∀ (a b : List Pc), csOf V (cat a b) = csOf V a ++ csOf V b
  | [], b => by simp [cat, csOf]
  | [.lit l], .lit m :: r => by simp [cat, csOf, Pc.cs]
  | [.lit l], [] => by simp [cat, csOf]
  | [.lit l], .num e :: r => by simp [cat, csOf, Pc.cs]
  | [.num e], b => by cases b <;> simp [cat, csOf, Pc.cs]
  | p :: q :: a, b => by
    have e : cat (p :: q :: a) b = p :: cat (q :: a) b := by
      cases p <;> cases b <;> simp [cat]
    rw [e]
    simp only [csOf, cat_is (q :: a) b, List.append_assoc]
theorem txt_cat (a b : List Pc) : txt V (cat a b) = txt V a ++ txt V b := by
  rw [← txt_append]
  unfold txt
  rw [cat_is, csOf_append]
theorem strEq_is {a b : List Pc} {r : Bool} (h : strEq a b = some r) : ((txt V a).cps.toList == (txt V b).cps.toList) = r := by
  unfold strEq at h
  simp only [txt]
  split at h
  · rename_i x y hx hy
    cases h
    rw [litOf_is hx, litOf_is hy]
    cases q : lbeq x y with
    | true => rw [lbeq_is.mp q]; simp
    | false =>
      rw [beq_eq_false_iff_ne]
      intro e
      rw [lbeq_is.mpr (by simpa using e)] at q
      cases q
  · split at h
    · rename_i e
      cases h
      rw [all2_is (fun _ _ => Pc.same_is) e]; simp
    · cases h
theorem numCs_len {i : Int} (h1 : -1000 ≤ i) (h2 : i < 2000) : (numCs i).length ≤ 8 := by
  unfold numCs
  have h := PySem.int_text_length_le10 (a := i) (k := 4) (by decide) (by omega)
  have e := PySem.ofString_length (toString i)
  have e2 : (Str.ofString (toString i)).cps.toList.length = (Str.ofString (toString i)).length := by simp [Str.length]
  rw [e2, e]
  omega
theorem tlen_is (hV : V.Ok) : ∀ {ps : List Pc}, tlen ps < 1000000 → (csOf V ps).length ≤ tlen ps
  | [], _ => by simp [csOf]
  | .lit l :: r, h => by
    simp only [tlen] at h
    have := tlen_is hV (ps := r) (by omega)
    simp only [csOf, Pc.cs, List.length_append, tlen]; omega
  | .num e :: r, h => by
    unfold tlen at h ⊢
    split at h
    · rename_i hs
      have := tlen_is hV (ps := r) (by omega)
      have hb := ev_bound hV hs
      have := numCs_len hb.1 hb.2
      simp only [csOf, Pc.cs, List.length_append]; omega
    · omega
theorem txt_len (ps : List Pc) : (txt V ps).length = (csOf V ps).length := by simp [txt, Str.length]
theorem num_codes (i : Int) : ∀ c ∈ numCs i, c < 0x110000 := by
  intro c hc
  unfold numCs at hc
  rw [Str.ofString_eq_toList] at hc
  simp only [List.mem_map] at hc
  obtain ⟨ch, _, rfl⟩ := hc
  have := ch.valid
  have h : ch.toNat.isValidChar := this
  rcases h with h | h <;> omega
theorem dg_is : ∀ n, n < 100 → dg n = numCs (Int.ofNat n) := by
  have : (List.range 100).all (fun n => decide (dg n = numCs (Int.ofNat n))) = true := by decide +kernel
  intro n hn
  have h := List.all_eq_true.mp this n (List.mem_range.mpr hn)
  exact of_decide_eq_true h
theorem numText_is (hV : V.Ok) {e : IE} {ps : List Pc} (h : numText e = some ps) : csOf V ps = numCs (e.ev V) ∧ (e.ev V).natAbs < 10000 := by
  obtain ⟨v, k⟩ := e
  unfold numText at h
  split at h
  · rename_i hv
    have hv : v = 0 := Nat.eq_of_beq_eq_true hv
    subst hv
    split at h
    · rename_i n hk
      split at h
      · rename_i hb
        rw [Nat.blt_eq] at hb
        cases h
        simp only at hk
        subst hk
        rw [ev_const hV]
        refine ⟨?_, ?_⟩
        · simp only [csOf, Pc.cs, List.append_nil, dg_is n hb]
        · simp; omega
      · cases h
    · cases h
  · split at h
    · rename_i hs
      cases h
      have hb := ev_bound hV hs
      exact ⟨by simp [csOf, Pc.cs], by omega⟩
    · cases h
end

section
variable {V : Vl}
mutual
theorem toPy_lay (hV : V.Ok) : ∀ (n : Nat) (d : SD), SD.ok n d = true → (toPy V d).canLay0 = true ∧ (toPy V d).depth ≤ n ∧ plain d = true
  | 0, d, h => by simp [SD.ok] at h
  | n + 1, d, h => by
    unfold SD.ok at h
    split at h
    · simp [toPy, PyData.canLay0, PyData.depth, plain]
    · simp [toPy, PyData.canLay0, PyData.depth, plain]
    · rename_i ps
      refine ⟨?_, by simp [toPy, PyData.depth], by simp [plain]⟩
      rw [toPy, PyData.canLay0]
      show (txt V ps).cps.all (fun c => decide (c < 0x110000)) = true
      rw [← Array.all_toList]
      simp only [txt]
      rw [List.all_eq_true]
      intro c hc
      rw [decide_eq_true_eq]
      have key : ∀ qs : List Pc, (qs.all fun p => match p with | .lit l => l.all fun c => Nat.blt c 128 | .num e => small e.k) = true → ∀ c ∈ csOf V qs, c < 0x110000 := by
        intro qs
        induction qs with
        | nil => intro _ c hc; simp [csOf] at hc
        | cons p r ih =>
          intro hq c hc
          rw [List.all_cons, Bool.and_eq_true] at hq
          rw [csOf, List.mem_append] at hc
          rcases hc with hc | hc
          · cases p with
            | lit l =>
              have h1 := List.all_eq_true.mp hq.1 c hc
              rw [Nat.blt_eq] at h1
              omega
            | num e => exact num_codes _ c hc
          · exact ih hq.2 c hc
      exact key ps h c hc
    · rename_i ds
      have q := toPys_lay hV n ds h
      rw [toPy, PyData.canLay0, PyData.depth, plain]
      exact ⟨q.1, by have := q.2.1; omega, q.2.2⟩
    · rename_i ds
      have q := toPys_lay hV n ds h
      rw [toPy, PyData.canLay0, PyData.depth, plain]
      exact ⟨q.1, by have := q.2.1; omega, q.2.2⟩
    · cases h
theorem toPys_lay (hV : V.Ok) : ∀ (n : Nat) (ds : List SD), ds.all (SD.ok n) = true → PyData.canLayAll0 (toPys V ds) = true ∧ PyData.depthAll (toPys V ds) ≤ n ∧ plains ds = true
  | n, [], _ => by simp [toPys, PyData.canLayAll0, PyData.depthAll, plains]
  | n, d :: ds, h => by
    rw [List.all_cons, Bool.and_eq_true] at h
    have h1 := toPy_lay hV n d h.1
    have h2 := toPys_lay hV n ds h.2
    rw [toPys, PyData.canLayAll0, PyData.depthAll, plains, h1.1, h2.1, h1.2.2, h2.2.2]
    refine ⟨rfl, ?_, rfl⟩
    have := h1.2.1
    have := h2.2.1
    omega
end
end
end RegLaw

namespace RegLaw
open PySem PySem.Calls PySem.W PyProof.Rows

section
variable {prog : Program} {w : World} {V : Vl} {F : Fx} {A : Around} {fz : List (Addr × Obj)} {u v : Value} {a b d : SD}
theorem sizeLine_ge : 100000 ≤ sizeLine := by decide
theorem VAll.inv_nil {vs : List Value} (h : VAll V fz vs []) : vs = [] := by cases h; rfl

theorem binary_sound (hV : V.Ok) {o : Operator} (h : binary o a b = some d) (hu : VIn V fz u a) (hv : VIn V fz v b) : EvV prog w V F A (binaryOp o u v) fz d := by
  unfold binary at h
  split at h
  · -- Add
    split at h
    · rename_i x y
      split at h
      · rename_i e he
        split at h
        · cases h; cases hu; cases hv
          exact op_add_int hV he
        · cases h
      · cases h
    · rename_i x y
      split at h
      · rename_i hb
        rw [Nat.blt_eq] at hb
        cases h; cases hu; cases hv
        refine .pure1 fun s Q k => SBL.add (fun t' k' _ => ?_) ?_
        · rw [← txt_cat]; exact k _ _ (.str _ _)
        · have h1 := tlen_is hV (ps := x) (by omega)
          have h2 := tlen_is hV (ps := y) (by omega)
          rw [txt_len, txt_len]
          have := sizeLine_ge
          omega
      · cases h
    · rename_i x y
      split at h
      · rename_i hb
        rw [Bool.and_eq_true] at hb
        have l1 := szL_is hb.1
        have l2 := szL_is hb.2
        cases h
        cases hu with
        | lst hm kk r =>
          cases hv with
          | lst hm' kk' r' =>
            intro fz₁ s Q hs H k
            have z1 := r.length
            have z2 := r'.length
            refine add_lists H.fr H.nw (H.lst (hs _ hm) kk) (H.lst (hs _ hm') kk') (fun h' F' N' => ?_) (by have := sizeLine_ge; omega)
            exact k _ _ _ (Sub.cons _) (H.new (k := 0) F' N') (.lst (.head _) ⟨_, rfl⟩ (((r.mono hs).mono (Sub.cons _)).append ((r'.mono hs).mono (Sub.cons _))))
      · cases h
    · rename_i x y
      split at h
      · rename_i x xs y ys
        split at h
        · rename_i hb
          rw [Bool.and_eq_true] at hb
          have l1 := szL_is hb.1
          have l2 := szL_is hb.2
          cases h
          cases hu with
          | tup hm kk r =>
            cases hv with
            | tup hm' kk' r' =>
              intro fz₁ s Q hs H k
              have z1 := r.length
              have z2 := r'.length
              refine add_tuples H.fr H.nw (H.tup (hs _ hm) kk) (H.tup (hs _ hm') kk') (fun e => ?_) (fun _ e => ?_) (fun _ _ h' F' N' => ?_) (by have := sizeLine_ge; omega)
              · subst e; cases r
              · subst e; cases r'
              · exact k _ _ _ (Sub.cons _) (H.new (k := 0) F' N') (.tup (.head _) ⟨_, rfl⟩ (((r.mono hs).mono (Sub.cons _)).append ((r'.mono hs).mono (Sub.cons _))))
        · cases h
      · cases h
    · cases h
  · -- Mod
    split at h
    · rename_i x y hx hy
      obtain ⟨rfl, b1⟩ := natOf_is hx
      obtain ⟨rfl, b2⟩ := natOf_is hy
      split at h
      · cases h
      · rename_i h0
        have h0 := Nat.ne_of_beq_eq_false h0
        cases h
        cases hu; cases hv
        rw [ev_const hV, ev_const hV]
        refine .pure1 fun s Q k => mod_int' (by intro e; exact h0 (Int.ofNat.inj e)) ?_
        have e : (Int.ofNat x).fmod (Int.ofNat y) = (IE.mk 0 (Int.ofNat (x % y))).ev V := by
          rw [ev_const hV]; cases x <;> rfl
        rw [e]
        exact k _ _ (.int _ _)
    · cases h
  · -- FloorDiv
    split at h
    · rename_i x y hx hy
      obtain ⟨rfl, b1⟩ := natOf_is hx
      obtain ⟨rfl, b2⟩ := natOf_is hy
      split at h
      · cases h
      · rename_i h0
        have h0 := Nat.ne_of_beq_eq_false h0
        cases h
        cases hu; cases hv
        rw [ev_const hV, ev_const hV]
        refine .pure1 fun s Q k => floordiv_int (by intro e; exact h0 (Int.ofNat.inj e)) ?_ (.inl (PyProof.noPylong_small (by simp; omega)))
        have e : (Int.ofNat x).fdiv (Int.ofNat y) = (IE.mk 0 (Int.ofNat (x / y))).ev V := by
          rw [ev_const hV]; cases x with
          | zero => simp
          | succ x => rfl
        rw [e]
        exact k _ _ (.int _ _)
    · cases h
  · -- Mult
    split at h
    · rename_i x y hx hy
      obtain ⟨rfl, b1⟩ := natOf_is hx
      obtain ⟨rfl, b2⟩ := natOf_is hy
      cases h
      cases hu; cases hv
      rw [ev_const hV, ev_const hV]
      refine .pure1 fun s Q k => PyProof.Rows.mul_int ?_ (PySem.IntMulOk.of_left (PySem.intBits_le_64 (by simp; omega) (by simp; omega)))
      have e : (Int.ofNat x) * (Int.ofNat y) = (IE.mk 0 (Int.ofNat (x * y))).ev V := by
        rw [ev_const hV]; rfl
      rw [e]
      exact k _ _ (.int _ _)
    · cases h
  · cases h

theorem bool_of {r : Bool} {x : Bool} (e : x = r) (h : VIn V fz (.bool r) (.bool r)) : VIn V fz (.bool x) (.bool r) := by subst e; exact h
/- one comparison that needs no heap -/
theorem cmp1 {o : CmpOp} {x r : Bool} (e : x = r) (h : ∀ (s : Shared) (Q : Value → Shared → Prop), Q (.bool x) s → wpAny (model prog w) A (compareOp o u v) Q No s) : EvV prog w V F A (compareOp o u v) fz (.bool r) :=
  fun fz₁ s Q hs H k => h s Q (k _ s fz₁ (Sub.refl _) H (by subst e; exact .bool _))
theorem map_not {x : Option Bool} {r : Bool} (h : x.map (!·) = some r) : x = some (!r) := by
  cases x with
  | none => cases h
  | some y => simp at h; rw [← h]

theorem data_eq (hV : V.Ok) (hu : A.units + 64 < cLine) (ha : SD.ok 12 a = true) (hva : VIn V fz u a) (hvb : VIn V fz v a) : EvV prog w V F A (compareOp .Eq u v) fz (.bool true) := by
  intro fz₁ s Q hs H k
  have z := toPy_lay hV 12 a ha
  obtain ⟨as, ra⟩ := (hva.mono hs).reads H.nw H.sub z.2.2
  obtain ⟨bs, rb⟩ := (hvb.mono hs).reads H.nw H.sub z.2.2
  have sh : PySem.SeqAt.shaped (toPy V a) = true := by
    unfold PySem.SeqAt.shaped
    rw [z.1, Bool.true_and]
    exact decide_eq_true (Nat.le_trans z.2.1 (by decide))
  refine eq_dataH ra rb sh sh hu ?_
  rw [PySem.SeqAt.eqv_refl _ z.1]
  exact k _ _ _ (Sub.refl _) H (.bool _)
theorem data_ne (hV : V.Ok) (hu : A.units + 64 < cLine) (ha : SD.ok 12 a = true) (hva : VIn V fz u a) (hvb : VIn V fz v a) : EvV prog w V F A (compareOp .NotEq u v) fz (.bool false) := by
  intro fz₁ s Q hs H k
  have z := toPy_lay hV 12 a ha
  obtain ⟨as, ra⟩ := (hva.mono hs).reads H.nw H.sub z.2.2
  obtain ⟨bs, rb⟩ := (hvb.mono hs).reads H.nw H.sub z.2.2
  have sh : PySem.SeqAt.shaped (toPy V a) = true := by
    unfold PySem.SeqAt.shaped
    rw [z.1, Bool.true_and]
    exact decide_eq_true (Nat.le_trans z.2.1 (by decide))
  refine ne_dataH ra rb sh sh hu ?_
  rw [PySem.SeqAt.eqv_refl _ z.1]
  exact k _ _ _ (Sub.refl _) H (.bool _)

theorem compare_sound (hV : V.Ok) (hu : A.units + 64 < cLine) {o : CmpOp} {r : Bool} (h : compare o a b = some r) (hva : VIn V fz u a) (hvb : VIn V fz v b) : EvV prog w V F A (compareOp o u v) fz (.bool r) := by
  unfold compare at h
  split at h
  · -- ints
    cases hva; cases hvb
    split at h
    · exact cmp1 (IE.eq_is h) fun s Q k => P.eq_int k
    · have h' := map_not h
      refine cmp1 ?_ fun s Q k => P.ne_int k
      show (!(_ == _)) = r
      rw [IE.eq_is h']; simp
    · exact cmp1 (IE.lt_is hV h) fun s Q k => P.lt_int k
    · have h' := map_not h
      refine cmp1 ?_ fun s Q k => P.ge_int k
      have q := IE.lt_is hV h'
      rename_i x y _ _ _
      by_cases z : IE.ev V x < IE.ev V y
      · rw [decide_eq_true z] at q
        cases r with
        | true => cases q
        | false => rw [decide_eq_false_iff_not]; omega
      · rw [decide_eq_false z] at q
        cases r with
        | false => cases q
        | true => rw [decide_eq_true_eq]; omega
    · cases h
  · -- texts
    cases hva; cases hvb
    split at h
    · exact cmp1 (strEq_is h) fun s Q k => P.eq_str k
    · have h' := map_not h
      refine cmp1 ?_ fun s Q k => P.ne_str k
      show (!(_ == _)) = r
      rw [strEq_is h']; simp
    · cases h
  · cases hva; cases hvb
    split at h
    · cases h
      exact cmp1 rfl fun s Q k => PyProof.Rows.eq_bool k
    · cases h
      exact cmp1 rfl fun s Q k => PyProof.Rows.ne_bool k
    · cases h
  · split at h
    · rename_i e
      have e := SD.same_is _ e
      subst e
      cases hva; cases hvb
      split at h
      · cases h
        exact cmp1 (by simp) fun s Q k => P.eq_str k
      · cases h
        exact cmp1 (by simp) fun s Q k => P.ne_str k
      · cases h
    · cases h
  · split at h
    · rename_i e
      rw [Bool.and_eq_true] at e
      have e1 := SD.same_is _ e.1
      subst e1
      split at h
      · cases h
        exact data_eq hV hu e.2 hva hvb
      · cases h
        exact data_ne hV hu e.2 hva hvb
      · cases h
    · cases h
end
end RegLaw

namespace RegLaw
open PySem PySem.Calls PySem.W PyProof.Rows

theorem starEach_py (e : X) (rest : List Expr) (env : Env) : starEach (e.py :: rest) env = (false, eval e.py env) :: starEach rest env := by
  cases e <;> simp only [X.py, starEach]
theorem starEach_plain (pos : Pos) : ∀ (es : List X) (env : Env), (backTo pos (starEach (pys es) env)).any (·.1) = false
  | [], env => by simp [pys, starEach, backTo]
  | e :: r, env => by
    have ih := starEach_plain pos r env
    rw [pys, starEach_py]
    show (false || (backTo pos (starEach (pys r) env)).any (·.1)) = false
    rw [ih]; rfl

/- an environment of the text's own, in a def or in a block -/
structure EOk (env : Env) : Prop where
  g : env.globals = mainGlobals
  b : env.builtins = builtinsNs
  k : env.scope.kind = .function

structure FOk (K : Frag) (p : Program) (loose : List Str) (mean : ExcName → Option Value) (mg mb : Str → Option Value) (F : Fx) (A : Around) (n : Nat) : Prop where
  below : ∃ A₀ base outer env, Below A₀ base outer F.h₀ ∧ A.frames = some (env :: outer) ∧ env.frame = some F.L ∧ env.scope.kind = .function
  kin : K.In F.h₀
  top : Top p loose mean mg mb F.h₀
  handled : A.handled = none
  guards : A.guards = some []
  depth : A.depth + n < recursionLimit
  units : A.units + 8 * n + 100 < cLine

/- what the written part must say of the text's names -/
structure KOk (K : Frag) (w : World) (T : Tb) : Prop where
  len : nsIn K mainGlobals "len" = some none
  str : nsIn K mainGlobals "str" = some none
  repr : nsIn K mainGlobals "repr" = some none
  tuple : nsIn K mainGlobals "tuple" = some none
  range : nsIn K mainGlobals "range" = some none
  isinstance : nsIn K mainGlobals "isinstance" = some none
  shapes : ∃ a es n, nsIn K mainGlobals "SHAPES" = some (some (.ref a)) ∧ K.lookup a = some ⟨.type "dict", none, .dict es n, #[]⟩ ∧ KeysLit w.params es.toList ∧
    ∀ l r, lookStr T.shapes l = some r → ∃ t, nsIn K a ⟨l.toArray⟩ = some (some (.str ⟨r.toArray⟩ t))
  leaving : ∃ a dd vs n sl, nsIn K mainGlobals "LEAVING" = some (some (.ref a)) ∧ K.lookup a = some ⟨.type "tuple", dd, .seq vs n, sl⟩ ∧ StrsAre vs.toList (T.leaving.map fun l => ⟨l.toArray⟩)

section
variable {prog : Program} {w : World} {V : Vl} {F : Fx} {A : Around} {fz₀ fz : List (Addr × Obj)} {u v : Value} {a b d : SD} {env : Env} {K : Frag} {T : Tb} {p : Program} {loose : List Str} {mean : ExcName → Option Value} {mg mb : Str → Option Value} {n : Nat}

theorem name_G {x : Str} {pos : Pos} {s : Shared} {Q : Value → Shared → Prop} (C : FOk K p loose mean mg mb F A n) (O : EOk env) (H : Hp F fz s) (hx : env.kindOf x = some .globalImplicit)
    (e : nsIn K mainGlobals x = some (some v)) (hd : (x == ("__debug__" : Str)) = false) (h : Q v s) : wpAny (model prog w) A (eval (.Name x pos) env) Q No s :=
  nameG_K H.fr C.kin (topRead_of C.top) e h O.g O.k hx hd
theorem name_Bi {x : Str} {pos : Pos} {s : Shared} {Q : Value → Shared → Prop} (C : FOk K p loose mean mg mb F A n) (O : EOk env) (H : Hp F fz s) (hx : env.kindOf x = some .globalImplicit)
    (e : nsIn K mainGlobals x = some none) (hv : bootBuiltins x = some v) (hn : x ≠ "__name__") (hd : (x == ("__debug__" : Str)) = false) (h : Q v s) : wpAny (model prog w) A (eval (.Name x pos) env) Q No s :=
  Name_function_global O.k hx (loadGlobal_builtin (env := env) (by rw [O.g]; exact C.top.g.keeps H.fr.keep) (mg_none_of C.kin C.top.g e) (by rw [O.b]; exact C.top.b.keeps H.fr.keep) ((C.top.builtins x hn).trans hv) h) hd
theorem boot_len : bootBuiltins "len" = some (.builtin "len") := by boot_by_name
theorem boot_repr : bootBuiltins "repr" = some (.builtin "repr") := by boot_by_name
theorem boot_isinstance : bootBuiltins "isinstance" = some (.builtin "isinstance") := by boot_by_name
theorem boot_str : bootBuiltins "str" = some (.type "str") := by boot_by_name
theorem boot_tuple : bootBuiltins "tuple" = some (.type "tuple") := by boot_by_name
theorem boot_range : bootBuiltins "range" = some (.type "range") := by boot_by_name

/- arguments one behind the other -/
theorem el_all {pos : Pos} : ∀ {es : List X} {ds : List SD}, (∀ (i : Nat) (e : X) (d : SD), es[i]? = some e → ds[i]? = some d → EvV prog w V F A (eval e.py env) fz₀ d) → es.length = ds.length →
    EvL prog w V F A (spliced (backTo pos (starEach (pys es) env))) fz₀ ds
  | [], [], _, _ => fun fz s Q hs H k => by
    rw [pys]
    exact spliced_none (k _ _ _ (Sub.refl _) H .nil)
  | e :: es, d :: ds, h, hl => fun fz s Q hs H k => by
    rw [pys]
    refine spliced_more ?_ (starEach_py e _ env)
    refine h 0 e d rfl rfl fz s _ hs H fun v s₁ fz₁ h1 H₁ hv => ?_
    exact el_all (es := es) (ds := ds) (fun i e' d' he hd => h (i + 1) e' d' (by simpa using he) (by simpa using hd)) (by simpa using hl) fz₁ s₁ _ (hs.trans h1) H₁ fun vs s₂ fz₂ h2 H₂ hvs =>
      k _ _ _ (h1.trans h2) H₂ (.cons (hv.mono h2) hvs)
  | [], _ :: _, _, hl => by simp at hl
  | _ :: _, [], _, hl => by simp at hl

/- one argument to a builtin function, and to a type -/
theorem ev_bi1 {x : Str} {id : String} {e : X} {p1 q : Pos} {x' : SD} (C : FOk K p loose mean mg mb F A n) (O : EOk env) (hx : env.kindOf x = some .globalImplicit)
    (ek : nsIn K mainGlobals x = some none) (hv : bootBuiltins x = some (.builtin id)) (hn : x ≠ "__name__") (hd : (x == ("__debug__" : Str)) = false)
    (he : EvV prog w V F A (eval e.py env) fz₀ x') (h : ∀ fz u, Sub fz₀ fz → VIn V fz u x' → EvV prog w V F A (call (.builtin id) [u]) fz d) :
    EvV prog w V F A (eval (.Call (.Name x p1) [e.py] [] q) env) fz₀ d := fun fz s Q hs H k => by
  refine Call_ (name_Bi C O H hx ek hv hn hd ?_)
  refine callWith_method1 (first := []) ?_ (starEach_py e [] env) rfl
  refine spliced_more ?_ (starEach_py e [] env)
  refine he fz s _ hs H fun u s₁ fz₁ h1 H₁ hu => spliced_none ?_
  exact h fz₁ u (hs.trans h1) hu fz₁ s₁ _ (Sub.refl _) H₁ fun r s₂ fz₂ h2 H₂ hr => k _ _ _ (h1.trans h2) H₂ hr
theorem ev_ty1 {x : Str} {id : String} {e : X} {p1 q : Pos} {x' : SD} (C : FOk K p loose mean mg mb F A n) (O : EOk env) (hx : env.kindOf x = some .globalImplicit)
    (ek : nsIn K mainGlobals x = some none) (hv : bootBuiltins x = some (.type id)) (hn : x ≠ "__name__") (hd : (x == ("__debug__" : Str)) = false)
    (he : EvV prog w V F A (eval e.py env) fz₀ x') (h : ∀ fz u, Sub fz₀ fz → VIn V fz u x' → EvV prog w V F A (call (.type id) [u]) fz d) :
    EvV prog w V F A (eval (.Call (.Name x p1) [e.py] [] q) env) fz₀ d := fun fz s Q hs H k => by
  refine Call_ (name_Bi C O H hx ek hv hn hd ?_)
  refine callWith_type1 ?_ (starEach_py e [] env) rfl
  refine spliced_more ?_ (starEach_py e [] env)
  refine he fz s _ hs H fun u s₁ fz₁ h1 H₁ hu => spliced_none ?_
  exact h fz₁ u (hs.trans h1) hu fz₁ s₁ _ (Sub.refl _) H₁ fun r s₂ fz₂ h2 H₂ hr => k _ _ _ (h1.trans h2) H₂ hr

/- the built-in calls -/
theorem op_len (h : (match d with
      | .lst ds | .tup ds => match Nat.blt ds.length 1000 with
        | true => some (SD.int ⟨0, .ofNat ds.length⟩)
        | false => none
      | .str ps => match litOf ps with
        | some l => match Nat.blt l.length 1000 with
          | true => some (SD.int ⟨0, .ofNat l.length⟩)
          | false => none
        | none => none
      | _ => none) = some a) (hV : V.Ok) (hu : VIn V fz u d) : EvV prog w V F A (call (.builtin "len") [u]) fz a := by
  have fin : ∀ (n : Nat) (t : Tok) (f : List (Addr × Obj)), VIn V f (.int (n : Int) t) (.int ⟨0, .ofNat n⟩) := fun n t f => by
    have e : ((n : Int)) = (IE.mk 0 (Int.ofNat n)).ev V := by rw [ev_const hV]; rfl
    rw [e]; exact .int _ _
  split at h
  · rename_i ds
    split at h
    · rename_i hb
      rw [Nat.blt_eq] at hb
      cases h
      cases hu with
      | lst hm kk r =>
        intro fz₁ s Q hs H k
        have z := r.length
        refine Calls.call_len_list (H.lst (hs _ hm) kk) (by simp; omega) ?_
        refine k _ _ _ (Sub.refl _) (H.tok _) ?_
        rw [List.size_toArray, z]; exact fin _ _ _
    · cases h
  · rename_i ds
    split at h
    · rename_i hb
      rw [Nat.blt_eq] at hb
      cases h
      cases hu with
      | tup hm kk r =>
        intro fz₁ s Q hs H k
        have z := r.length
        refine PyProof.Rows.len_tuple (H.tup (hs _ hm) kk) (by simp; omega) ?_
        refine k _ _ _ (Sub.refl _) (H.tok _) ?_
        rw [List.size_toArray, z]; exact fin _ _ _
    · cases h
  · rename_i ps
    split at h
    · rename_i l hl
      split at h
      · rename_i hb
        rw [Nat.blt_eq] at hb
        cases h
        cases hu with
        | str _ t =>
          intro fz₁ s Q hs H k
          have e : (txt V ps).length = l.length := by rw [txt_len, litOf_is hl]
          refine SBL.len (by omega) ?_
          refine k _ _ _ (Sub.refl _) (H.tok _) ?_
          rw [e]; exact fin _ _ _
      · cases h
    · cases h
  · cases h
theorem op_str (h : strOfD d = some a) (hV : V.Ok) (C : FOk K p loose mean mg mb F A n) (hu : VIn V fz u d) : EvV prog w V F A (call (.type "str") [u]) fz a := by
  unfold strOfD at h
  split at h
  · rename_i e
    split at h
    · rename_i ps hp
      cases h
      cases hu with
      | int _ t =>
        obtain ⟨h1, h2⟩ := numText_is hV hp
        refine .pure1 fun s Q k => P.str_of_int (shown (N := 10000) (by omega) (by omega) (by decide)) ?_
        have e2 : (Str.ofString (toString (e.ev V))) = txt V ps := by
          unfold txt
          rw [h1]
          unfold numCs
          simp
        rw [e2]
        exact k _ _ (.str _ _)
    · cases h
  · cases h
    cases hu with
    | str ps t => exact .pure1 fun s Q k => P.str_of_str (k _ s.toks (.str _ _))
  · rename_i ds
    split at h
    · rename_i x y
      split at h
      · rename_i i j hi hj
        split at h
        · rename_i hb
          rw [Bool.and_eq_true, Nat.blt_eq, Nat.blt_eq] at hb
          cases h
          obtain ⟨e1, _⟩ := natOf_is hi
          obtain ⟨e2, _⟩ := natOf_is hj
          cases e1; cases e2
          intro fz₁ s Q hs H k
          obtain ⟨as, ra⟩ := (hu.mono hs).reads H.nw H.sub (by simp [plain, plains])
          have py : toPy V (.lst [.int ⟨0, .ofNat i⟩, .int ⟨0, .ofNat j⟩]) = .list [.int i, .int j] := by
            simp only [toPy, toPys, ev_const hV]; rfl
          rw [py] at ra
          cases hu with
          | lst hm kk r =>
            have sh : (PyData.list [.int i, .int j]).shown = ⟨#[91, 48 + i, 44, 32, 48 + j, 93]⟩ := by
              have tab : (List.range 10).all (fun i => (List.range 10).all fun j => decide ((PyData.list [.int (i : Nat), .int (j : Nat)]).shown = ⟨#[91, 48 + i, 44, 32, 48 + j, 93]⟩)) = true := by decide +kernel
              exact of_decide_eq_true (List.all_eq_true.mp (List.all_eq_true.mp tab i (List.mem_range.mpr hb.1)) j (List.mem_range.mpr hb.2))
            have hdep : (PyData.list [.int i, .int j]).depth ≤ 1 := by simp [PyData.depth, PyData.depthAll]
            have l2 : ∀ q : Nat, q < 10 → q.log2 < 1920 := fun q hq => by
              have : (List.range 10).all (fun q => decide (q.log2 < 1920)) = true := by decide +kernel
              exact of_decide_eq_true (List.all_eq_true.mp this q (List.mem_range.mpr hq))
            refine str_of_reads ra (by simp [PyData.showable, PyData.showableAll, l2 i hb.1, l2 j hb.2]) (PySem.PyData.noDict_hsm (by simp [PyData.hasDict, PyData.hasDictAll])) C.guards (by have := C.units; omega) (fun _ _ e => e) (fun h' u' tk hk => ?_) ?_
            · rw [sh]
              have e3 : (⟨#[91, 48 + i, 44, 32, 48 + j, 93]⟩ : Str) = txt V [.lit [91, 48 + i, 44, 32, 48 + j, 93]] := by simp [txt, csOf, Pc.cs]
              rw [e3]
              exact k _ _ _ (Sub.refl _) (H.at (H.fr.keeps hk) (H.nw.grown hk)) (.str _ _)
            · rw [sh]; show 6 ≤ sizeLine; decide
        · cases h
      · cases h
    · cases h
  · cases h
end
end RegLaw

namespace RegLaw
open PySem PySem.Calls PySem.W PyProof.Rows

noncomputable def X.isNm : X → Bool
  | .loc .. | .cel .. | .fre .. | .cvr .. | .str .. => true
  | _ => false
theorem isNm_base {e : X} (h : e.isNm = true) (name : Str) (env : Env) : attributeBase e.py name env (eval e.py env) = eval e.py env := by
  cases e <;> first | (simp [X.isNm] at h; done) | (simp only [X.py]; rfl)
theorem backTo_one (e : X) (pos : Pos) (env : Env) : backTo pos (starEach [e.py] env) = [(false, eval e.py env)] := by
  rw [starEach_py]; rfl
theorem backTo_two (e f : X) (pos : Pos) (env : Env) : backTo pos (starEach [e.py, f.py] env) = [(false, eval e.py env), (false, eval f.py env)] := by
  rw [starEach_py, starEach_py]; rfl

section
variable {prog : Program} {w : World} {V : Vl} {F : Fx} {A : Around} {fz₀ fz : List (Addr × Obj)} {u v : Value} {a b d : SD} {env : Env} {K : Frag} {T : Tb} {p : Program} {loose : List Str} {mean : ExcName → Option Value} {mg mb : Str → Option Value} {n : Nat}

theorem wt_is (hV : V.Ok) : ∀ (n : Nat) (d : SD), SD.wt n d < 1000000 → SD.ok n d = true → (toPy V d).weight ≤ SD.wt n d ∧ (toPy V d).intsShort 13 = true ∧ (toPy V d).showable = true ∧ (toPy V d).hasDict = false
  | 0, d, h, _ => by simp [SD.wt] at h
  | n + 1, d, h, hk => by
    have all : ∀ ds : List SD, ds.foldr (fun d k => SD.wt n d + 1 + k) 0 < 1000000 → ds.all (SD.ok n) = true →
        PyData.weightAll (toPys V ds) ≤ ds.foldr (fun d k => SD.wt n d + 1 + k) 0 ∧ PyData.intsShortAll 13 (toPys V ds) = true ∧ PyData.showableAll (toPys V ds) = true ∧ PyData.hasDictAll (toPys V ds) = false := by
      intro ds
      induction ds with
      | nil => intro _ _; simp [toPys, PyData.weightAll, PyData.intsShortAll, PyData.showableAll, PyData.hasDictAll]
      | cons d ds ih =>
        intro h hk
        rw [List.all_cons, Bool.and_eq_true] at hk
        simp only [List.foldr_cons] at h ⊢
        have q1 := wt_is hV n d (by omega) hk.1
        have q2 := ih (by omega) hk.2
        simp only [toPys, PyData.weightAll, PyData.intsShortAll, PyData.showableAll, PyData.hasDictAll, q1.2.1, q2.2.1, q1.2.2.1, q2.2.2.1, q1.2.2.2, q2.2.2.2]
        refine ⟨?_, rfl, rfl, rfl⟩
        have := q1.1
        have := q2.1
        omega
    cases d with
    | none => simp [toPy, PyData.weight, PyData.intsShort, PyData.showable, PyData.hasDict]
    | bool b => simp [SD.ok] at hk
    | int e =>
      simp only [SD.ok] at hk
      have hb := ev_bound hV hk
      simp only [SD.wt, hk] at h ⊢
      simp only [toPy, PyData.weight, PyData.intsShort, PyData.showable, PyData.hasDict]
      have hl : (e.ev V).natAbs.log2 < 11 := by
        by_cases z : (e.ev V).natAbs = 0
        · rw [z]; decide
        · exact (Nat.log2_lt z).mpr (by omega)
      refine ⟨?_, ?_, by simp; omega, trivial⟩
      · split <;> omega
      · refine decide_eq_true ?_
        show (Str.ofString (toString (e.ev V))).length ≤ 13
        rw [PySem.ofString_length]
        have := PySem.int_text_length_le10 (a := e.ev V) (k := 4) (by decide) (by omega)
        omega
    | str ps =>
      simp only [SD.wt] at h ⊢
      have := tlen_is hV (ps := ps) h
      simp only [toPy, PyData.weight, PyData.intsShort, PyData.showable, PyData.hasDict]
      refine ⟨?_, trivial, trivial, trivial⟩
      simpa [txt] using this
    | rep d => simp [SD.ok] at hk
    | tup ds =>
      simp only [SD.ok] at hk
      simp only [SD.wt] at h ⊢
      have := all ds h hk
      simpa only [toPy, PyData.weight, PyData.intsShort, PyData.showable, PyData.hasDict] using this
    | lst ds =>
      simp only [SD.ok] at hk
      simp only [SD.wt] at h ⊢
      have := all ds h hk
      simpa only [toPy, PyData.weight, PyData.intsShort, PyData.showable, PyData.hasDict] using this
    | map => simp [SD.ok] at hk
    | emp => simp [SD.ok] at hk

theorem op_repr {ds : List SD} (hV : V.Ok) (C : FOk K p loose mean mg mb F A n) (ho : SD.ok 12 (.tup ds) = true) (hw : Nat.blt (SD.wt 12 (.tup ds)) 10000 = true) (hu : VIn V fz u (.tup ds)) :
    EvV prog w V F A (call (.builtin "repr") [u]) fz (.rep (.tup ds)) := by
  intro fz₁ s Q hs H k
  rw [Nat.blt_eq] at hw
  have z := toPy_lay hV 12 _ ho
  have q := wt_is hV 12 _ (by omega) ho
  obtain ⟨as, ra⟩ := (hu.mono hs).reads H.nw H.sub z.2.2
  cases hu with
  | tup hm kk r =>
    have hl : PyData.layable0 (toPy V (.tup ds)) = true := by
      show (PyData.canLay0 _ && decide (PyData.depth _ ≤ 64) && decide (PyData.weight _ ≤ 2 ^ 20)) = true
      rw [z.1, decide_eq_true (Nat.le_trans z.2.1 (by decide)), decide_eq_true (Nat.le_trans q.1 (by omega))]
      rfl
    have hsz := PyProof.Rows.shown_le13 hl q.2.1
    refine repr_of_reads' ra q.2.2.1 (PySem.PyData.noDict_hsm q.2.2.2) C.guards (by have := C.units; have := z.2.1; omega) (fun _ _ e => e) (fun h' u' tk hk => ?_) (Nat.le_trans hsz (by decide))
    exact k _ _ _ (Sub.refl _) (H.at (H.fr.keeps hk) (H.nw.grown hk)) (.rep _ _)

theorem op_tuple {ds : List SD} (hl : szL ds = true) (hu : VIn V fz u (.lst ds)) : EvV prog w V F A (call (.type "tuple") [u]) fz (.tup ds) := by
  have hl := szL_is hl
  intro fz₁ s Q hs H k
  cases hu with
  | lst hm kk r =>
    have z := r.length
    refine kde_tupleOf H.fr H.nw (H.lst (hs _ hm) kk) (by simp; omega) rfl fun D h' F' N' hD => ?_
    exact k _ _ _ (Sub.cons _) (H.add' F' N' hD) (.tup (.head _) ⟨0, by simp⟩ ((r.mono hs).mono (Sub.cons _)))
theorem op_isT_t {ds : List SD} (hu : VIn V fz u (.tup ds)) : EvV prog w V F A (call (.builtin "isinstance") [u, .type "tuple"]) fz (.bool true) := by
  cases hu with
  | tup hm kk r =>
    intro fz₁ s Q hs H k
    obtain ⟨m, rfl⟩ := kk
    exact PySem.IsiPair.tuple_tuple (H.get (hs _ hm)) rfl (k _ _ _ (Sub.refl _) H (.bool _))
theorem op_isT_i {e : IE} (hu : VIn V fz u (.int e)) : EvV prog w V F A (call (.builtin "isinstance") [u, .type "tuple"]) fz (.bool false) := by
  cases hu
  exact .pure1 fun s Q k => PySem.IsiPair.int_tuple (k _ _ (.bool _))

/- a tuple, a list, an empty dict, written -/
theorem ev_tup {es : List X} {ds : List SD} {q : Pos} {j : Nat} (hl : szL ds = true) (h : ∀ pos, EvL prog w V F A (spliced (backTo pos (starEach (pys es) env))) fz₀ ds) : EvV prog w V F A (eval (.Tuple (pys es) j q) env) fz₀ (.tup ds) := by
  have hl := szL_is hl
  intro fz s Q hs H k
  refine Tuple_ (h q fz s _ hs H fun vs s₁ fz₁ h1 H₁ hvs => ?_)
  have z := hvs.length
  refine newTuple_N H₁.fr H₁.nw (fun h' F' N' => ?_) (by have := sizeLine_ge; omega)
  exact k _ _ _ (h1.trans (Sub.cons _)) (H₁.new (k := 0) F' N') (.tup (.head _) ⟨_, rfl⟩ (hvs.mono (Sub.cons _)))
theorem ev_lst {es : List X} {ds : List SD} {q : Pos} (hl : szL ds = true) (h : ∀ pos, EvL prog w V F A (spliced (backTo pos (starEach (pys es) env))) fz₀ ds) : EvV prog w V F A (eval (.List (pys es) q) env) fz₀ (.lst ds) := by
  have hl := szL_is hl
  intro fz s Q hs H k
  refine List_ (h q fz s _ hs H fun vs s₁ fz₁ h1 H₁ hvs => ?_)
  have z := hvs.length
  refine newList_N H₁.fr H₁.nw (fun h' F' N' => ?_) (by have := sizeLine_ge; omega)
  exact k _ _ _ (h1.trans (Sub.cons _)) (H₁.new (k := 0) F' N') (.lst (.head _) ⟨_, rfl⟩ (hvs.mono (Sub.cons _)))
theorem ev_emp {q : Pos} (C : FOk K p loose mean mg mb F A n) : EvV prog w V F A (eval (.Dict [] [] q) env) fz₀ .emp := by
  intro fz s Q hs H k
  refine wpAny_Dict_empty ?_
  refine k _ _ _ (Sub.cons _) (H.new (k := 0) (H.fr.push _) (H.nw.push H.fr _)) (.emp (.head _) ?_ (H.fr.notModules (modules_low C.top.nolimit)))
  intro h a prog w e
  refine ⟨_, _, _, e, ⟨rfl, rfl, rfl⟩, rfl, fun e he => by simp at he, fun k => ?_⟩
  simp [findBy]

/- places -/
theorem item_sound {value slice : Expr} {k : Nat} {j : SD} (hV : V.Ok) (hj : natOf j = some k) (h : item d k = some a) (hsl : ∀ l u st p, slice ≠ .Slice l u st p) (hu : VIn V fz u d) (hv : VIn V fz v j) :
    EvV prog w V F A (subscriptTail value slice u v) fz a := by
  obtain ⟨rfl, hb⟩ := natOf_is hj
  cases hv with
  | int _ tk =>
    rw [ev_const hV]
    have hs' : ∀ o : Value, subscripted slice false o (.int (Int.ofNat k) tk) = operate [o, .int (Int.ofNat k) tk] (getItem o (.int (Int.ofNat k) tk)) := by
      intro o
      unfold subscripted
      split
      · exact absurd rfl (hsl _ _ _ _)
      · rename_i e; cases e
      · rfl
    unfold item at h
    split at h
    · rename_i ds
      cases hu with
      | tup hm kk r =>
        intro fz₁ s Q hs H q
        obtain ⟨x, hx, hxa⟩ := r.get h
        have hlt : k < (List.length _) := (List.getElem?_eq_some_iff.mp hx).1
        refine item_tupleT (H.tup (hs _ hm) kk) (by simp <;> omega) (by simp <;> omega) (j := k) ?_ hx (q _ _ _ (Sub.refl _) H (hxa.mono hs)) (hs' _)
        unfold seqIndex?
        have e0 : ¬ ((k : Int) < 0) := by omega
        simp [e0, hlt]
    · rename_i ds
      cases hu with
      | lst hm kk r =>
        intro fz₁ s Q hs H q
        obtain ⟨x, hx, hxa⟩ := r.get h
        have hl := H.lst (hs _ hm) kk
        exact tail_any hl.typeIs slot_list_getitem.lookup (wpAny_getItem_list hl (by simp) (by simp; omega) (by simpa using hx) (q _ _ _ (Sub.refl _) H (hxa.mono hs))) (hs' _)
    · rename_i ps
      split at h
      · rename_i l hl
        split at h
        · rename_i c hc
          cases h
          cases hu with
          | str _ t =>
            have el : (txt V ps).cps = l.toArray := by unfold txt; rw [litOf_is hl]
            refine .pure1 fun s Q q => ?_
            refine tail_any (typeIs_str s _ t) PySem.F.slot_str_getitem.lookup (P.getItem_str ?_ (c := c) ?_ ?_) (hs' _)
            · simp; omega
            · have hlt : k < l.length := (List.getElem?_eq_some_iff.mp hc).1
              have e1 : seqIndex? (Int.ofNat k) (txt V ps).length = some k := by
                rw [txt_len, litOf_is hl]
                unfold seqIndex?
                have e0 : ¬ ((k : Int) < 0) := by omega
                simp [e0, hlt]
              rw [e1, el]
              simpa using hc
            · have e : (⟨#[c]⟩ : Str) = txt V [.lit [c]] := by simp [txt, csOf, Pc.cs]
              rw [e]
              exact q _ _ (.str _ _)
        · cases h
      · cases h
    · cases h
end
end RegLaw

namespace RegLaw
open PySem PySem.Calls PySem.W PyProof.Rows

theorem slice_take (x : Str) (h : Nat) : Txt.slice x none (some (h : Int)) = ⟨(x.cps.toList.take h).toArray⟩ := by
  have key : ∀ j : Nat, j ≤ x.cps.toList.length → Txt.slice x none (some (j : Int)) = ⟨(x.cps.toList.take j).toArray⟩ := by
    intro j hj
    have e := slice_closes_to (x := x) (j := (j : Int)) ⟨by omega, by omega⟩
    rw [eq_of_beq e]
    simp
  by_cases hh : h ≤ x.cps.toList.length
  · exact key h hh
  · have e := slice_to_beyond (x := x) (j := (h : Int)) (by simp [Str.length] at hh ⊢; omega)
    have el : x.length = x.cps.toList.length := by simp [Str.length]
    rw [e, el, key _ (Nat.le_refl _), List.take_of_length_le (Nat.le_refl _), List.take_of_length_le (by omega)]

noncomputable def X.isVar : X → Bool
  | .loc .. | .cel .. | .fre .. | .cvr .. => true
  | _ => false
theorem isVar_go {e : X} (h : e.isVar = true) (o r : Value) : letTemporaryGo e.py o r = pure () := by
  cases e <;> first | (simp [X.isVar] at h; done) | (simp only [X.py]; rfl)
theorem str_go (e : Expr) (x : Str) (t : Tok) (r : Value) : letTemporaryGo e (.str x t) r = pure () := by
  unfold letTemporaryGo
  split <;> first | rfl | contradiction

section
variable {prog : Program} {w : World} {V : Vl} {F : Fx} {A : Around} {fz₀ fz : List (Addr × Obj)} {u v : Value} {a b d : SD} {env : Env} {K : Frag} {T : Tb} {p : Program} {loose : List Str} {mean : ExcName → Option Value} {mg mb : Str → Option Value} {n : Nat}

theorem VAll.slice {vs : List Value} {ds : List SD} (h : VAll V fz vs ds) {lo hi : Nat} (h1 : lo ≤ hi) (h2 : hi ≤ ds.length) :
    VAll V fz (slicePick vs.toArray (some (lo : Int)) (some (hi : Int)) none).toList ((ds.drop lo).take (hi - lo)) := by
  have z := h.length
  rw [slicePick_run vs.toArray lo hi (by simp; omega) h1]
  simpa using (h.drop lo).take (hi - lo)
theorem VAll.upto {vs : List Value} {ds : List SD} (h : VAll V fz vs ds) {hi : Nat} (h2 : hi ≤ ds.length) :
    VAll V fz (slicePick vs.toArray none (some (hi : Int)) none).toList (ds.take hi) := by
  have z := h.length
  rw [slicePick_upto vs.toArray hi (by simp; omega)]
  simpa using h.take hi

theorem ev_sliT {e : X} {hi : Expr} {q r : Pos} {j : SD} {h : Nat} (hV : V.Ok) (hb : e.isVar = true ∨ ∃ ps, d = .str ps) (he : EvV prog w V F A (eval e.py env) fz₀ d) (hh : EvV prog w V F A (eval hi env) fz₀ j) (hj : natOf j = some h)
    (hd : slice d 0 (some h) = some a) : EvV prog w V F A (eval (.Subscript e.py (.Slice none (some hi) none q) r) env) fz₀ a := by
  obtain ⟨rfl, hlt⟩ := natOf_is hj
  intro fz s Q hs H k
  refine Subscript_ (he fz s _ hs H fun u s₁ fz₁ h1 H₁ hu => wpAny_Slice ?_)
  refine wpAny_pure ?_
  refine hh fz₁ s₁ _ (hs.trans h1) H₁ fun v s₂ fz₂ h2 H₂ hv => ?_
  refine wpAny_pure ?_
  cases hv with
  | int _ tk =>
    rw [ev_const hV]
    unfold slice at hd
    split at hd
    · rename_i ds
      split at hd
      · rename_i hsz
        split at hd
        · rename_i hn
          cases hn
          split at hd
          · rename_i hc
            rw [Bool.and_eq_true] at hc
            have c1 := Nat.le_of_ble_eq_true hc.1
            cases hd
            have hvar : e.isVar = true := by rcases hb with h | ⟨_, h⟩ <;> first | exact h | cases h
            cases hu with
            | @lst aa oo vs _ hm kk rr =>
              have z := rr.length
              have := szL_is hsz
              refine slice_list H₂.fr H₂.nw (H₂.lst (h2 _ hm) kk) .none (.int _ _) (fun h' F' N' => ?_) rfl (isVar_go hvar _) (by rw [List.size_toArray]; have := sizeLine_ge; omega)
              refine k _ _ _ ((h1.trans h2).trans (Sub.cons _)) (H₂.new (k := 1) F' N') (.lst (vs := (slicePick vs.toArray none (some (h : Int)) none).toList) (.head _) ⟨0, by simp⟩ ?_)
              exact ((rr.mono h2).upto c1).mono (Sub.cons _)
          · cases hd
        · cases hd
      · cases hd
    · rename_i ds
      split at hd
      · cases hd
      · rename_i hn; cases hn
    · rename_i ps
      split at hd
      · rename_i l hl
        split at hd
        · rename_i hn
          cases hn
          split at hd
          · cases hd
            cases hu with
            | str _ t =>
              have hlen : (txt V ps).length ≤ sizeLine ∨ True := .inr trivial
              refine slice_strN_ns H₂.fr H₂.nw (fun h' t' kk F' N' => ?_) rfl (str_go _ _ _) ?_
              · have e1 : Txt.slice (txt V ps) none (some (Int.ofNat h)) = txt V (mkLit (l.take h)) := by
                  have := slice_take (txt V ps) h
                  rw [show Int.ofNat h = (h : Int) from rfl, this]
                  unfold txt
                  rw [mkLit_is, litOf_is hl]
                rw [e1]
                exact k _ _ _ (h1.trans h2) (H₂.at F' N') (.str _ _)
              · rename_i hz
                rw [Bool.and_eq_true] at hz
                have := szL_is hz.2
                rw [txt_len, litOf_is hl]
                have := sizeLine_ge
                omega
          · cases hd
        · cases hd
      · cases hd
    · cases hd
theorem ev_sli {e : X} {lo hi : Expr} {q r : Pos} {i j : SD} {l h : Nat} (hV : V.Ok) (hb : e.isVar = true ∨ ∃ ps, d = .str ps) (he : EvV prog w V F A (eval e.py env) fz₀ d) (hl : EvV prog w V F A (eval lo env) fz₀ i) (hh : EvV prog w V F A (eval hi env) fz₀ j)
    (hi' : natOf i = some l) (hj : natOf j = some h) (hd : slice d l (some h) = some a) (hns : ∀ ps, d ≠ .str ps) : EvV prog w V F A (eval (.Subscript e.py (.Slice (some lo) (some hi) none q) r) env) fz₀ a := by
  obtain ⟨rfl, hlt⟩ := natOf_is hj
  obtain ⟨rfl, hlt'⟩ := natOf_is hi'
  intro fz s Q hs H k
  refine Subscript_ (he fz s _ hs H fun u s₁ fz₁ h1 H₁ hu => wpAny_Slice ?_)
  refine hl fz₁ s₁ _ (hs.trans h1) H₁ fun v0 s₂' fz₂' h2' H₂' hv0 => ?_
  refine hh fz₂' s₂' _ ((hs.trans h1).trans h2') H₂' fun v s₂ fz₂ h2 H₂ hv => ?_
  refine wpAny_pure ?_
  cases hv with
  | int _ tk =>
    cases hv0 with
    | int _ tk0 =>
      rw [ev_const hV, ev_const hV]
      unfold slice at hd
      split at hd
      · rename_i ds
        split at hd
        · rename_i hsz
          split at hd
          · rename_i hn
            cases hn
            split at hd
            · rename_i hc
              rw [Bool.and_eq_true] at hc
              have c1 := Nat.le_of_ble_eq_true hc.1
              have c2 := Nat.le_of_ble_eq_true hc.2
              cases hd
              have hvar : e.isVar = true := by rcases hb with h | ⟨_, h⟩ <;> first | exact h | cases h
              have h2'' := h2'.trans h2
              cases hu with
              | @lst aa oo vs _ hm kk rr =>
                have z := rr.length
                have := szL_is hsz
                refine slice_list H₂.fr H₂.nw (H₂.lst (h2'' _ hm) kk) (.int _ _) (.int _ _) (fun h' F' N' => ?_) rfl (isVar_go hvar _) (by rw [List.size_toArray]; have := sizeLine_ge; omega)
                refine k _ _ _ ((h1.trans h2'').trans (Sub.cons _)) (H₂.new (k := 1) F' N') (.lst (vs := (slicePick vs.toArray (some (l : Int)) (some (h : Int)) none).toList) (.head _) ⟨0, by simp⟩ ?_)
                exact ((rr.mono h2'').slice c2 c1).mono (Sub.cons _)
            · cases hd
          · cases hd
        · cases hd
      · rename_i ds
        split at hd
        · cases hd
        · rename_i hn; cases hn
      · exact absurd rfl (hns _)
      · cases hd
theorem ev_sliD {e : X} {lo : Expr} {q r : Pos} {i : SD} {l : Nat} (hV : V.Ok) (hb : e.isVar = true) (he : EvV prog w V F A (eval e.py env) fz₀ d) (hl : EvV prog w V F A (eval lo env) fz₀ i)
    (hi' : natOf i = some l) (hd : slice d l none = some a) : EvV prog w V F A (eval (.Subscript e.py (.Slice (some lo) none none q) r) env) fz₀ a := by
  obtain ⟨rfl, hlt'⟩ := natOf_is hi'
  intro fz s Q hs H k
  refine Subscript_ (he fz s _ hs H fun u s₁ fz₁ h1 H₁ hu => wpAny_Slice ?_)
  refine hl fz₁ s₁ _ (hs.trans h1) H₁ fun v s₂ fz₂ h2 H₂ hv => ?_
  refine wpAny_pure (wpAny_pure ?_)
  cases hv with
  | int _ tk =>
    rw [ev_const hV]
    unfold slice at hd
    split at hd
    · split at hd
      · split at hd
        · rename_i hn; cases hn
        · cases hd
      · cases hd
    · rename_i ds
      split at hd
      · cases hd
      · split at hd
        · rename_i hc
          rw [Bool.and_eq_true, Bool.and_eq_true] at hc
          have c1 := Nat.le_of_ble_eq_true hc.1.1
          have c2 := hc.1.2
          rw [Nat.blt_eq] at c2
          have c3 := szL_is hc.2
          cases hd
          cases hu with
          | @tup aa oo vs _ hm kk rr =>
            have z := rr.length
            refine PyProof.Rows.slice_tuple_from (a := l) H₂.fr H₂.nw (H₂.tup (h2 _ hm) kk) c2 (by simp; omega) (fun h' F' N' => ?_) rfl (isVar_go hb _) (by rw [List.size_toArray]; have := sizeLine_ge; omega)
            refine k _ _ _ ((h1.trans h2).trans (Sub.cons _)) (H₂.new (k := 1) F' N') (.tup (vs := vs.drop l) (.head _) ⟨0, by simp⟩ ?_)
            exact ((rr.mono h2).drop l).mono (Sub.cons _)
        · cases hd
    · split at hd
      · split at hd
        · rename_i hn; cases hn
        · cases hd
      · cases hd
    · cases hd

/- the text's tables -/
theorem ev_shp {e : Expr} {q r : Pos} {ps : List Pc} {l x : List Nat} (C : FOk K p loose mean mg mb F A n) (O : EOk env) (KK : KOk K w T) (hx : env.kindOf "SHAPES" = some .globalImplicit) (hsl : ∀ l u st p, e ≠ .Slice l u st p)
    (he : EvV prog w V F A (eval e env) fz₀ (.str ps)) (hl : litOf ps = some l) (hr : lookStr T.shapes l = some x) : EvV prog w V F A (eval (.Subscript (.Name "SHAPES" q) e r) env) fz₀ (.str (mkLit x)) := by
  intro fz s Q hs H k
  obtain ⟨sa, es, m, h1, h2, h3, h4⟩ := KK.shapes
  refine Subscript_ (name_G C O H hx h1 (by decide) ?_)
  refine he fz s _ hs H fun v s₁ fz₁ g1 H₁ hv => ?_
  cases hv with
  | str _ tk =>
    obtain ⟨t, h5⟩ := h4 l x hr
    have e1 : txt V ps = ⟨l.toArray⟩ := by unfold txt; rw [litOf_is hl]
    have e2 : (⟨x.toArray⟩ : Str) = txt V (mkLit x) := by unfold txt; rw [mkLit_is]
    rw [e1]
    refine topItem_K H₁.fr C.kin h2 h3 h5 ?_ ?_
    · rw [e2]
      exact k _ _ _ g1 (H₁.tok _) (.str _ _)
    · unfold subscripted
      split
      · exact absurd rfl (hsl _ _ _ _)
      · rename_i z; cases z
      · rfl
theorem any_lits (l : List Nat) : ∀ ls : List (List Nat), ((ls.map fun l => (⟨l.toArray⟩ : Str)).any (· == (⟨l.toArray⟩ : Str))) = ls.any (lbeq l)
  | [] => rfl
  | x :: r => by
    rw [List.map_cons, List.any_cons, List.any_cons, any_lits l r]
    congr 1
    rw [Bool.eq_iff_iff, beq_iff_eq, lbeq_is]
    constructor
    · intro h
      have := Str.mk.inj h
      simpa using this.symm
    · rintro rfl; rfl
theorem ev_lvg {e : Expr} {q r : Pos} {ps : List Pc} {l : List Nat} (C : FOk K p loose mean mg mb F A n) (O : EOk env) (KK : KOk K w T) (hx : env.kindOf "LEAVING" = some .globalImplicit)
    (he : EvV prog w V F A (eval e env) fz₀ (.str ps)) (hl : litOf ps = some l) : EvV prog w V F A (eval (.Compare e [.NotIn] [.Name "LEAVING" q] r) env) fz₀ (.bool (!(T.leaving.any (lbeq l)))) := by
  intro fz s Q hs H k
  obtain ⟨la, dd, vs, m, sl, h1, h2, h3⟩ := KK.leaving
  refine wpAny_Compare1 (hm := rfl) (he fz s _ hs H fun v s₁ fz₁ g1 H₁ hv => ?_)
  refine name_G C O H₁ hx h1 (by decide) ?_
  cases hv with
  | str _ tk =>
    have e1 : txt V ps = ⟨l.toArray⟩ := by unfold txt; rw [litOf_is hl]
    rw [e1]
    have ho := C.kin _ _ h2
    refine PyProof.Rows.notin_tuple_strs (items := vs) ⟨_, H₁.fr.keep _ _ ho, rfl, m, rfl⟩ h3 ?_
    rw [any_lits]
    exact k _ _ _ g1 H₁ (.bool _)
theorem litsOf_strs : ∀ {ds : List SD} {ls : List (List Nat)} {vs : List Value}, litsOf ds = some ls → VAll V fz vs ds → StrsAre vs (ls.map fun l => ⟨l.toArray⟩)
  | [], ls, vs, h, hv => by
    cases hv
    simp only [litsOf] at h
    cases h
    exact .nil
  | d :: ds, ls, vs, h, hv => by
    cases hv with
    | cons h1 h2 =>
      cases d with
      | str ps =>
        simp only [litsOf] at h
        split at h
        · rename_i l ls' hl hls
          cases h
          cases h1 with
          | str _ t =>
            have e1 : txt V ps = ⟨l.toArray⟩ := by unfold txt; rw [litOf_is hl]
            rw [e1]
            exact .cons _ _ (litsOf_strs hls h2)
        · cases h
      | _ => simp [litsOf] at h
theorem ev_inn {e : Expr} {neg : Bool} {bs : List X} {q r : Pos} {ps : List Pc} {l : List Nat} {ds : List SD} {ls : List (List Nat)} (hsz : szL ds = true)
    (he : EvV prog w V F A (eval e env) fz₀ (.str ps)) (hl : litOf ps = some l) (hb : ∀ pos, EvL prog w V F A (spliced (backTo pos (starEach (pys bs) env))) fz₀ ds) (hls : litsOf ds = some ls) :
    EvV prog w V F A (eval (.Compare e [if neg then .NotIn else .In] [.Tuple (pys bs) 0 q] r) env) fz₀ (.bool (if neg then !(ls.any (lbeq l)) else ls.any (lbeq l))) := by
  refine ev_cmp he (ev_tup hsz hb) (fun fz u v hs hu hv => ?_) (by cases neg <;> rfl)
  cases hu with
  | str _ tk =>
    have e1 : txt V ps = ⟨l.toArray⟩ := by unfold txt; rw [litOf_is hl]
    rw [e1]
    cases hv with
    | @tup aa oo vs _ hm kk rr =>
      intro fz₁ s Q hs H k
      have hst := litsOf_strs hls rr
      cases neg
      · refine PyProof.Rows.in_tuple_strs (items := vs.toArray) (H.tup (hs _ hm) kk) (by simpa using hst) ?_
        rw [any_lits]
        exact k _ _ _ (Sub.refl _) H (.bool _)
      · refine PyProof.Rows.notin_tuple_strs (items := vs.toArray) (H.tup (hs _ hm) kk) (by simpa using hst) ?_
        rw [any_lits]
        exact k _ _ _ (Sub.refl _) H (.bool _)

/- isinstance, get, join -/
theorem ev_isT {e : X} {q r t : Pos} (C : FOk K p loose mean mg mb F A n) (O : EOk env) (KK : KOk K w T) (hx : env.kindOf "isinstance" = some .globalImplicit) (hy : env.kindOf "tuple" = some .globalImplicit)
    (he : EvV prog w V F A (eval e.py env) fz₀ d) (h : ∀ fz u, Sub fz₀ fz → VIn V fz u d → EvV prog w V F A (call (.builtin "isinstance") [u, .type "tuple"]) fz a) :
    EvV prog w V F A (eval (.Call (.Name "isinstance" q) [e.py, .Name "tuple" r] [] t) env) fz₀ a := by
  intro fz s Q hs H k
  refine Call_ (name_Bi C O H hx KK.isinstance boot_isinstance (by decide) (by decide) ?_)
  refine callWith_method1 (first := []) ?_ (starEach_py e _ env) rfl
  refine spliced_more ?_ (starEach_py e _ env)
  refine he fz s _ hs H fun u s₁ fz₁ h1 H₁ hu => spliced_more (name_Bi C O H₁ hy KK.tuple boot_tuple (by decide) (by decide) (spliced_none ?_)) rfl
  exact h fz₁ u (hs.trans h1) hu fz₁ s₁ _ (Sub.refl _) H₁ fun r s₂ fz₂ h2 H₂ hr => k _ _ _ (h1.trans h2) H₂ hr
theorem getM_is {x y : SD} (hV : V.Ok) (h : getM x y = some a) : ∃ e i, x = .int e ∧ y = .int e ∧ a = .int i ∧ i.ev V = V.M (e.ev V) := by
  unfold getM at h
  split at h
  · rename_i e e'
    split at h
    · rename_i hc
      rw [Bool.and_eq_true] at hc
      obtain ⟨v, k⟩ := e
      obtain ⟨v', k'⟩ := e'
      have h1 : v = v' := Nat.eq_of_beq_eq_true hc.1
      have h2 : k = k' := ieq_is hc.2
      subst h1; subst h2
      split at h
      · rename_i hz
        have hz : v = 0 := Nat.eq_of_beq_eq_true hz
        subst hz
        split at h
        · rename_i hk
          cases h
          refine ⟨_, _, rfl, rfl, rfl, ?_⟩
          rw [ev_const hV, hV.neg _ ((ilt_is _ _).mp hk)]
        · cases h
      · rename_i hz
        have hz : v ≠ 0 := Nat.ne_of_beq_eq_false hz
        split at h
        · rename_i hk
          rw [Bool.and_eq_true] at hk
          have hk1 : k = 0 := ieq_is hk.1
          have hk2 : v < 100 := by have := hk.2; rwa [Nat.blt_eq] at this
          subst hk1
          cases h
          refine ⟨_, _, rfl, rfl, rfl, ?_⟩
          simp only [IE.ev]
          rw [hV.get v (by omega) hk2]
          simp
        · cases h
    · cases h
  · cases h
theorem ev_get {m x y : X} {q t : Pos} {kx : SD} (hm : m.isVar = true) (hline : (q.endLine == t.line) = true) {dm : SD} (hd : dm = .map ∨ dm = .emp)
    (em : EvV prog w V F A (eval m.py env) fz₀ dm) (ex : EvV prog w V F A (eval x.py env) fz₀ kx) (ey : EvV prog w V F A (eval y.py env) fz₀ d)
    (hg : (dm = .map → ∃ e i, kx = .int e ∧ d = .int e ∧ a = .int i ∧ i.ev V = V.M (e.ev V)) ∧ (dm = .emp → (∃ e, kx = .int e) ∧ a = d)) :
    EvV prog w V F A (eval (.Call (.Attribute m.py "get" q) [x.py, y.py] [] t) env) fz₀ a := by
  intro fz s Q hs H k
  have hb : m.isNm = true := by cases m <;> first | rfl | (simp [X.isVar] at hm; done)
  refine wpAny_Call_method2_late (isNm_base hb _ _) hline (backTo_two _ _ _ _) ?_
  refine em fz s _ hs H fun u s₁ fz₁ h1 H₁ hu => ?_
  have fin : ∀ (aa : Addr) (oo : Obj) (f : Int → Option Value), (aa, oo) ∈ fz₁ → (aa == sysModules) = false → u = .ref aa → (∀ (h : Heap), h.get? aa = some oo → h.MapOf (PySem.intKind prog w) aa f) →
      (∀ s₂ fz₂ kv dv, Sub fz₁ fz₂ → Hp F fz₂ s₂ → VIn V fz₂ kv kx → VIn V fz₂ dv d → ∃ e t, kv = .int e t ∧ VIn V fz₂ ((f e).getD dv) a) → MethodOn prog w A "get" t u [(false, eval x.py env), (false, eval y.py env)] Q No s₁ := by
    intro aa oo f hmem hmod hu' hmap hfin
    subst hu'
    have mo := hmap s₁.heap (H₁.get hmem)
    refine ⟨"dict", "dict.get", PySem.F.plainAttrs_dict, PySem.F.slot_dict_get, PySem.F.type_dict_get, mo.typeIs, mo.noDict, ?_⟩
    refine wpAny_dict_get2 (knd := PySem.intKind prog w) hmod (ex fz₁ s₁ _ (hs.trans h1) H₁ fun kv s₂ fz₂ h2 H₂ hk => ?_)
    refine ey fz₂ s₂ _ ((hs.trans h1).trans h2) H₂ fun dv s₃ fz₃ h3 H₃ hdv => ?_
    obtain ⟨e, tt, rfl, ha⟩ := hfin s₃ fz₃ kv dv (h2.trans h3) H₃ (hk.mono h3) hdv
    exact ⟨e, f, intKind_is _ _ _ _, hmap _ (H₃.get (h3 _ (h2 _ hmem))), k _ _ _ ((h1.trans h2).trans h3) (H₃.tok _) ha⟩
  rcases hd with rfl | rfl
  · obtain ⟨e, i, rfl, rfl, rfl, hM⟩ := hg.1 rfl
    cases hu with
    | map hmem hmo hmod =>
      obtain ⟨f, hf1, hf2⟩ := hmo
      refine fin _ _ f hmem hmod rfl (fun h eh => hf1 h _ prog w eh) fun s₂ fz₂ kv dv _ _ hk hdv => ?_
      cases hk; cases hdv
      refine ⟨_, _, rfl, ?_⟩
      have z := hf2 (e.ev V)
      cases q : f (e.ev V) with
      | none =>
        have e1 := z.1 q
        rw [Option.getD_none]
        rw [e1] at hM
        rw [← hM]
        exact .int _ _
      | some v =>
        obtain ⟨tt, rfl⟩ := z.2 v q
        rw [Option.getD_some, ← hM]
        exact .int _ _
  · obtain ⟨⟨e, rfl⟩, rfl⟩ := hg.2 rfl
    cases hu with
    | emp hmem hmo hmod =>
      refine fin _ _ (fun _ => none) hmem hmod rfl (fun h eh => hmo h _ prog w eh) fun s₂ fz₂ kv dv _ _ hk hdv => ?_
      cases hk
      exact ⟨_, _, rfl, hdv⟩

theorem joinT_is (sep : List Pc) : ∀ {ds : List SD} {ps : List Pc} {vs : List Value}, joinT sep ds = some ps → VAll V fz vs ds → ∃ ys, StrsAre vs ys ∧ Str.join (txt V sep) ys = txt V ps ∧ ys.length = ds.length ∧
    (∀ (hV : V.Ok), tlen sep < 1000000 → joinW (tlen sep) ds < 1000000 → (ys.map (·.length)).sum + ys.length * (txt V sep).length ≤ joinW (tlen sep) ds)
  | [], ps, vs, h, hv => by
    cases hv
    simp only [joinT] at h
    cases h
    exact ⟨[], .nil, rfl, rfl, fun _ _ _ => by simp [joinW]⟩
  | d :: ds, ps, vs, h, hv => by
    cases hv with
    | @cons v vs _ _ h1 h2 =>
      cases d with
      | str qs0 =>
        cases h1 with
        | str _ t =>
          have sizes : ∀ ys : List Str, ((∀ (hV : V.Ok), tlen sep < 1000000 → joinW (tlen sep) ds < 1000000 → (ys.map (·.length)).sum + ys.length * (txt V sep).length ≤ joinW (tlen sep) ds)) →
              ∀ (hV : V.Ok), tlen sep < 1000000 → joinW (tlen sep) (.str qs0 :: ds) < 1000000 → ((txt V qs0 :: ys).map (·.length)).sum + (txt V qs0 :: ys).length * (txt V sep).length ≤ joinW (tlen sep) (.str qs0 :: ds) := by
            intro ys hy hV hsep hw
            simp only [joinW] at hw ⊢
            have a1 := hy hV hsep (by omega)
            have a2 := tlen_is hV (ps := qs0) (by omega)
            have a3 := tlen_is hV (ps := sep) hsep
            simp only [List.map_cons, List.sum_cons, List.length_cons, Nat.add_mul, Nat.one_mul]
            rw [txt_len] at a1 ⊢
            rw [txt_len]
            omega
          cases ds with
          | nil =>
            cases h2
            simp only [joinT, Option.some.injEq] at h
            subst h
            exact ⟨[_], .cons _ _ .nil, rfl, rfl, sizes [] fun _ _ _ => by simp [joinW]⟩
          | cons e es =>
            simp only [joinT] at h
            split at h
            · rename_i rs hrs
              cases h
              obtain ⟨ys, s1, s2, s3, s4⟩ := joinT_is sep (ds := e :: es) hrs h2
              refine ⟨txt V qs0 :: ys, .cons _ _ s1, ?_, by rw [List.length_cons, s3]; rfl, sizes ys s4⟩
              cases ys with
              | nil => simp at s3
              | cons y ys =>
                show txt V qs0 ++ txt V sep ++ Str.join (txt V sep) (y :: ys) = _
                rw [s2, txt_cat, txt_cat, Str.append_assoc]
            · cases h
      | _ => simp [joinT] at h
theorem ev_join {m x : X} {q t : Pos} {sep ps : List Pc} {ds : List SD} (hV : V.Ok) (hm : m.isNm = true) (hline : (q.endLine == t.line) = true)
    (em : EvV prog w V F A (eval m.py env) fz₀ (.str sep)) (ex : EvV prog w V F A (eval x.py env) fz₀ (.lst ds)) (hw : Nat.blt (joinW (tlen sep) ds) 10000 = true) (hsep : tlen sep < 1000000) (hj : joinT sep ds = some ps) :
    EvV prog w V F A (eval (.Call (.Attribute m.py "join" q) [x.py] [] t) env) fz₀ (.str ps) := by
  intro fz s Q hs H k
  rw [Nat.blt_eq] at hw
  refine Call_method1 (isNm_base hm _ _) (by rw [starEach_py]; rfl) hline ?_
  refine em fz s _ hs H fun u s₁ fz₁ h1 H₁ hu => ?_
  cases hu with
  | str _ tk =>
    refine ⟨"str", "str.join", PySem.F.plainAttrs_str, PySem.F.slot_str_join, PySem.F.type_str_join, typeIs_str _ _ _, (fun _ e => by cases e), ?_⟩
    refine Calls.callWith_builtin rfl (Calls.evalArgs_plain (Calls.spliced_cons ?_))
    refine ex fz₁ s₁ _ (hs.trans h1) H₁ fun v s₂ fz₂ h2 H₂ hv => Calls.spliced_nil ?_
    cases hv with
    | @lst aa oo vs _ hmem kk rr =>
      obtain ⟨ys, e1, e2, e3, e4⟩ := joinT_is sep hj rr
      refine join_list (items := vs.toArray) (ys := ys) (H₂.lst hmem kk) (by simpa using e1) (Nat.le_trans (e4 hV hsep (by omega)) (by omega)) fun t' kk' => ?_
      have e5 : Txt.join (txt V sep) ys = txt V ps := by
        unfold Txt.join
        rw [StrLaws.glued_eq_join, e2]
      rw [e5]
      exact k _ _ _ (h1.trans h2) (H₂.tok _) (.str _ _)
end
end RegLaw

namespace RegLaw
open PySem PySem.Calls PySem.W PyProof.Rows

/- the cells that a block closes over -/
noncomputable def closL (cells : List (Str × Addr)) : List (Str × NameKind) → List (Str × Addr) → Option (List (Str × Addr))
  | [], acc => some acc
  | (n, k) :: r, acc => if k == .free then match cells.lookup n with
      | some a => closL cells r ((n, a) :: acc)
      | none => none
    else closL cells r acc
theorem closL_is {env : Env} : ∀ (names : List (Str × NameKind)) (acc cl : List (Str × Addr)), closL env.cells names acc = some cl →
    (forIn names acc (fun (x : Str × NameKind) (cs : List (Str × Addr)) => (do if x.2 == .free then do { let a ← cellOf env x.1; pure (ForInStep.yield ((x.1, a) :: cs)) } else pure (ForInStep.yield cs) : Sem (ForInStep (List (Str × Addr)))))) = (pure cl : Sem (List (Str × Addr)))
  | [], acc, cl, h => by
    simp only [closL] at h
    cases h
    rfl
  | (n, k) :: r, acc, cl, h => by
    rw [List.forIn_cons]
    simp only [closL] at h
    cases hk : (k == NameKind.free) with
    | true =>
      simp only [hk, if_true] at h ⊢
      split at h
      · rename_i a ha
        have ec : cellOf env n = pure a := by unfold cellOf; rw [ha]
        rw [ec]
        simp only [pure_bind]
        exact closL_is r _ _ h
      · cases h
    | false =>
      simp only [hk, Bool.false_eq_true, if_false, pure_bind] at h ⊢
      exact closL_is r _ _ h
theorem closureFor_is {env : Env} {sc : Scope} {cl : List (Str × Addr)} (h : closL env.cells sc.names [] = some cl) : closureFor sc env = pure cl := by
  have := closL_is sc.names [] cl h
  unfold closureFor
  first
    | exact this
    | (simp only [bind_pure]; exact this)
    | (refine Eq.trans ?_ this; simp only [bind_pure_comp, map_pure, bind_pure]; rfl)
theorem closL_lookup {cells : List (Str × Addr)} : ∀ (names : List (Str × NameKind)) (acc cl : List (Str × Addr)), closL cells names acc = some cl → (∀ x a, acc.lookup x = some a → cells.lookup x = some a) →
    (∀ x a, cl.lookup x = some a → cells.lookup x = some a) ∧ (∀ x, (acc.lookup x).isSome = true ∨ (x, NameKind.free) ∈ names → (cl.lookup x).isSome = true)
  | [], acc, cl, h, ha => by
    simp only [closL] at h
    cases h
    exact ⟨ha, fun x hx => by rcases hx with h | h; exact h; simp at h⟩
  | (n, k) :: r, acc, cl, h, ha => by
    simp only [closL] at h
    cases hk : (k == NameKind.free) with
    | true =>
      simp only [hk, if_true] at h
      split at h
      · rename_i a hca
        have ha' : ∀ x b, ((n, a) :: acc).lookup x = some b → cells.lookup x = some b := by
          intro x b hx
          rw [List.lookup_cons] at hx
          cases e : (x == n) with
          | true => rw [e] at hx; cases hx; rw [eq_of_beq e]; exact hca
          | false => rw [e] at hx; exact ha x b hx
        obtain ⟨h1, h2⟩ := closL_lookup r _ _ h ha'
        refine ⟨h1, fun x hx => h2 x ?_⟩
        rcases hx with hx | hx
        · refine .inl ?_
          rw [List.lookup_cons]
          cases e : (x == n) with
          | true => rfl
          | false => exact hx
        · rcases List.mem_cons.mp hx with hx | hx
          · cases hx
            refine .inl ?_
            rw [List.lookup_cons]
            simp
          · exact .inr hx
      · cases h
    | false =>
      simp only [hk, Bool.false_eq_true, if_false] at h
      obtain ⟨h1, h2⟩ := closL_lookup r _ _ h ha
      refine ⟨h1, fun x hx => h2 x ?_⟩
      rcases hx with hx | hx
      · exact .inl hx
      · rcases List.mem_cons.mp hx with hx | hx
        · cases hx; simp at hk
        · exact .inr hx

noncomputable def blkF (F : Fx) (I : Addr) (oI : Obj) (C : Addr) (oC : Obj) (D : Addr) (ys : List Value) : Fx := { F with keep := (I, oI) :: (C, oC) :: (D, LCg.lst ys) :: F.keep }

section
variable {prog : Program} {w : World} {V : Vl} {F : Fx} {A : Around} {fz₀ fz : List (Addr × Obj)} {env : Env}
theorem perm3 (fz keep : List (Addr × Obj)) (a b c : Addr × Obj) : (fz ++ a :: b :: c :: keep).Perm (a :: b :: c :: (fz ++ keep)) := by
  refine List.perm_middle.trans (.cons _ ?_)
  refine List.perm_middle.trans (.cons _ ?_)
  exact List.perm_middle
theorem blk_hp {I C D : Addr} {oI oC : Obj} {ys : List Value} {h : Heap} {tk : Nat} (F' : Fr F.h₀ F.L h F.m) (N : News F.h₀ F.L h ((I, oI) :: (C, oC) :: (D, LCg.lst ys) :: (fz ++ F.keep))) (off : LCg.Off3 I C D (fz ++ F.keep))
    (ne : ((@Ne Nat I C) ∧ (@Ne Nat I D) ∧ (@Ne Nat C D))) (nd : ((fz ++ F.keep).map (·.1)).Nodup) {s : Shared} (sh : s = { F.s₀ with heap := h, toks := tk }) : Hp (blkF F I oI C oC D ys) fz s := by
  subst sh
  refine ⟨F', fun p hp => N p ((perm3 fz F.keep _ _ _).mem_iff.mp hp), ?_, h, tk, rfl⟩
  show ((fz ++ (I, oI) :: (C, oC) :: (D, LCg.lst ys) :: F.keep).map (·.1)).Nodup
  rw [((perm3 fz F.keep _ _ _).map (·.1)).nodup_iff]
  simp only [List.map_cons, List.nodup_cons, List.mem_cons, not_or]
  have o := off.mem
  have nomem : ∀ a : Addr, (∀ p ∈ fz ++ F.keep, p.1 ≠ a) → a ∉ (fz ++ F.keep).map (·.1) := fun a ha hm => by
    obtain ⟨p, hp, e⟩ := List.mem_map.mp hm
    exact ha p hp e
  exact ⟨⟨ne.1, ne.2.1, nomem I fun p hp => (o p hp).1⟩, ⟨ne.2.2, nomem C fun p hp => (o p hp).2.1⟩, nomem D fun p hp => (o p hp).2.2, nd⟩
theorem blk_back {I C D : Addr} {oI oC : Obj} {ys : List Value} {s : Shared} (H : Hp (blkF F I oI C oC D ys) fz s) :
    Fr F.h₀ F.L s.heap F.m ∧ News F.h₀ F.L s.heap ((I, oI) :: (C, oC) :: (D, LCg.lst ys) :: (fz ++ F.keep)) ∧ LCg.Off3 I C D (fz ++ F.keep) ∧ ((fz ++ F.keep).map (·.1)).Nodup := by
  have nd := H.nd
  change ((fz ++ (I, oI) :: (C, oC) :: (D, LCg.lst ys) :: F.keep).map (·.1)).Nodup at nd
  rw [((perm3 fz F.keep _ _ _).map (·.1)).nodup_iff] at nd
  simp only [List.map_cons, List.nodup_cons, List.mem_cons, not_or] at nd
  obtain ⟨⟨_, _, n1⟩, ⟨_, n2⟩, n3, n4⟩ := nd
  refine ⟨H.fr, fun p hp => H.nw p ((perm3 fz F.keep _ _ _).mem_iff.mpr hp), LCg.Off3.of fun p hp => ⟨fun e => n1 (e ▸ List.mem_map_of_mem hp), fun e => n2 (e ▸ List.mem_map_of_mem hp), fun e => n3 (e ▸ List.mem_map_of_mem hp)⟩, n4⟩

/- what a turn of a block must show: its element, its test -/
noncomputable def EltOK (prog : Program) (w : World) (V : Vl) (F : Fx) (A : Around) (env : Env) (fz₀ : List (Addr × Obj)) (elt : Expr) (x : Str) (sc : Scope) (cl : List (Str × Addr)) (f : SD → Option SD) : Prop :=
  ∀ I oI C oC D ys m₂ v fz d y, LCg.NsObj oC m₂ → m₂ x = some v → Sub fz₀ fz → VIn V fz v d → f d = some y → EvV prog w V (blkF F I oI C oC D ys) A (eval elt (compEnvC sc cl C env)) fz y
noncomputable def TestOK (prog : Program) (w : World) (V : Vl) (F : Fx) (A : Around) (env : Env) (fz₀ : List (Addr × Obj)) (ct : Expr) (x : Str) (sc : Scope) (cl : List (Str × Addr)) (f : SD → Option Bool) : Prop :=
  ∀ I oI C oC D ys m₂ v fz d b, LCg.NsObj oC m₂ → m₂ x = some v → Sub fz₀ fz → VIn V fz v d → f d = some b → EvB prog w (blkF F I oI C oC D ys) A (isTrue ct (compEnvC sc cl C env) (eval ct (compEnvC sc cl C env))) fz b

theorem comp_rest {elt : Expr} {x : Str} {sc : Scope} {cl : List (Str × Addr)} {f : SD → Option SD} {s : Shared} {S : List (Addr × Obj) → Prop} {P : Nat → Value → Prop} {Fin : List Value → List (Addr × Obj) → Prop} {all : List SD} {fzs : List (Addr × Obj)}
    (hs : ∃ h tk, s = { F.s₀ with heap := h, toks := tk }) (he : EltOK prog w V F A env fz₀ elt x sc cl f) (hP : ∀ i v d, P i v → all[i]? = some d → VIn V fzs v d) (hS : ∀ fz, Sub fzs fz → S (fz ++ F.keep)) :
    ∀ (j i : Nat) (fz : List (Addr × Obj)) (ys : List Value) (yd rest : List SD), i + j = all.length → Sub fz₀ fz → Sub fzs fz → ((fz ++ F.keep).map (·.1)).Nodup → VAll V fz ys yd → compGo f (fun _ => some true) (all.drop i) = some rest →
      (∀ ys' fz', Sub fz fz' → ((fz' ++ F.keep).map (·.1)).Nodup → VAll V fz' ys' (yd ++ rest) → Fin ys' (fz' ++ F.keep)) →
      LCg.CompRest prog w A F.h₀ F.L F.m env elt x sc cl s S P Fin j i ys (fz ++ F.keep)
  | 0, i, fz, ys, yd, rest, hl, h0, h1, nd, hy, hg, fin => by
    have e : all.drop i = [] := List.drop_of_length_le (by omega)
    rw [e] at hg
    simp only [compGo] at hg
    cases hg
    exact LCg.CompRest.zero (fin ys fz (Sub.refl _) nd (by simpa using hy))
  | j + 1, i, fz, ys, yd, rest, hl, h0, h1, nd, hy, hg, fin => by
    have hi : i < all.length := by omega
    rw [List.drop_eq_getElem_cons hi] at hg
    unfold compGo at hg
    simp only at hg
    split at hg
    · rename_i y hye
      split at hg
      · rename_i ys' hys
        cases hg
        refine LCg.CompRest.succ fun v I oI C oC D m₂ h tk E' hv hC hx F' N' off ne => ?_
        obtain ⟨hh, tk0, es⟩ := hs
        have H := blk_hp (fz := fz) F' N' off ne nd (s := { s with heap := h, toks := tk }) (tk := tk) (by rw [es])
        have hd := hP i v _ hv (List.getElem?_eq_getElem hi)
        have ev := he I oI C oC D ys m₂ v fz _ y hC hx h0 (hd.mono h1) hye
        refine wpAny_mono (ev fz _ (fun yv s₂ => LCg.CompEnd F.h₀ F.L F.m { s with heap := h, toks := tk } I oI C oC D (LCg.lst ys) S (fun y news' => LCg.CompRest prog w A F.h₀ F.L F.m env elt x sc cl s S P Fin j (i + 1) (ys ++ [y]) news') yv s₂) (Sub.refl _) H fun yv s₂ fz₂ h2 H₂ hyv => ?_) (fun _ _ q => q) (fun _ _ q => q.elim)
        obtain ⟨F₂, N₂, off₂, nd₂⟩ := blk_back H₂
        obtain ⟨h₂, tk₂, e₂⟩ := H₂.sh
        refine ⟨h₂, tk₂, fz₂ ++ F.keep, by rw [e₂]; show _ = _; rw [es]; rfl, by rw [e₂] at F₂; exact F₂, by rw [e₂] at N₂; exact N₂, off₂, hS fz₂ (h1.trans h2), ?_⟩
        exact comp_rest ⟨hh, tk0, es⟩ he hP hS j (i + 1) fz₂ (ys ++ [yv]) (yd ++ [y]) ys' (by omega) (h0.trans h2) (h1.trans h2) nd₂ ((hy.mono h2).append (.cons hyv .nil)) hys
          fun ys'' fz' h3 nd' hall => fin ys'' fz' (h2.trans h3) nd' (by simpa using hall)
      · cases hg
    · cases hg

theorem comp_restT {ct elt : Expr} {x : Str} {sc : Scope} {cl : List (Str × Addr)} {f : SD → Option SD} {c : SD → Option Bool} {s : Shared} {S : List (Addr × Obj) → Prop} {P : Nat → Value → Prop} {Fin : List Value → List (Addr × Obj) → Prop} {all : List SD} {fzs : List (Addr × Obj)}
    (hs : ∃ h tk, s = { F.s₀ with heap := h, toks := tk }) (he : EltOK prog w V F A env fz₀ elt x sc cl f) (ht : TestOK prog w V F A env fz₀ ct x sc cl c) (hP : ∀ i v d, P i v → all[i]? = some d → VIn V fzs v d) (hS : ∀ fz, Sub fzs fz → S (fz ++ F.keep)) :
    ∀ (j i : Nat) (fz : List (Addr × Obj)) (ys : List Value) (yd rest : List SD), i + j = all.length → Sub fz₀ fz → Sub fzs fz → ((fz ++ F.keep).map (·.1)).Nodup → VAll V fz ys yd → compGo f c (all.drop i) = some rest →
      (∀ ys' fz', Sub fz fz' → ((fz' ++ F.keep).map (·.1)).Nodup → VAll V fz' ys' (yd ++ rest) → Fin ys' (fz' ++ F.keep)) →
      LCt.CompRestT prog w A F.h₀ F.L F.m env ct elt x sc cl s S P Fin j i ys (fz ++ F.keep)
  | 0, i, fz, ys, yd, rest, hl, h0, h1, nd, hy, hg, fin => by
    have e : all.drop i = [] := List.drop_of_length_le (by omega)
    rw [e] at hg
    simp only [compGo] at hg
    cases hg
    exact LCt.CompRestT.zero (fin ys fz (Sub.refl _) nd (by simpa using hy))
  | j + 1, i, fz, ys, yd, rest, hl, h0, h1, nd, hy, hg, fin => by
    have hi : i < all.length := by omega
    rw [List.drop_eq_getElem_cons hi] at hg
    refine LCt.CompRestT.succ fun v I oI C oC D m₂ h tk E' hv hC hx F' N' off ne => ?_
    obtain ⟨hh, tk0, es⟩ := hs
    have H := blk_hp (fz := fz) F' N' off ne nd (s := { s with heap := h, toks := tk }) (tk := tk) (by rw [es])
    have hd := hP i v _ hv (List.getElem?_eq_getElem hi)
    unfold compGo at hg
    have step : ∀ s₂ fz₂ yv ys₂ yd₂ rest₂, Sub fz fz₂ → Hp (blkF F I oI C oC D ys) fz₂ s₂ → VAll V fz₂ ys₂ yd₂ → compGo f c (all.drop (i + 1)) = some rest₂ → yd₂ ++ rest₂ = yd ++ rest →
        LCg.CompEnd F.h₀ F.L F.m { s with heap := h, toks := tk } I oI C oC D (LCg.lst ys) S (fun _ news' => LCt.CompRestT prog w A F.h₀ F.L F.m env ct elt x sc cl s S P Fin j (i + 1) ys₂ news') yv s₂ := by
      intro s₂ fz₂ yv ys₂ yd₂ rest₂ h2 H₂ hall hcg heq
      obtain ⟨F₂, N₂, off₂, nd₂⟩ := blk_back H₂
      obtain ⟨h₂, tk₂, e₂⟩ := H₂.sh
      refine ⟨h₂, tk₂, fz₂ ++ F.keep, by rw [e₂]; show _ = _; rw [es]; rfl, by rw [e₂] at F₂; exact F₂, by rw [e₂] at N₂; exact N₂, off₂, hS fz₂ (h1.trans h2), ?_⟩
      exact comp_restT ⟨hh, tk0, es⟩ he ht hP hS j (i + 1) fz₂ ys₂ yd₂ rest₂ (by omega) (h0.trans h2) (h1.trans h2) nd₂ hall hcg
        fun ys'' fz' h3 nd' hall' => fin ys'' fz' (h2.trans h3) nd' (by rw [← heq]; exact hall')
    split at hg
    · rename_i hct
      split at hg
      · rename_i y hye
        split at hg
        · rename_i ys' hys
          cases hg
          have tst := ht I oI C oC D ys m₂ v fz _ true hC hx h0 (hd.mono h1) hct
          have ev := he I oI C oC D ys m₂ v fz _ y hC hx h0 (hd.mono h1) hye
          refine wpAny_mono (tst fz _ _ (Sub.refl _) H fun s₁ fz₁ g1 H₁ => ?_) (fun _ _ q => q) (fun _ _ q => q.elim)
          rw [if_pos rfl]
          refine wpAny_mono (ev fz₁ s₁ _ g1 H₁ fun yv s₂ fz₂ h2 H₂ hyv => ?_) (fun _ _ q => q) (fun _ _ q => q.elim)
          exact step s₂ fz₂ yv (ys ++ [yv]) (yd ++ [y]) ys' (g1.trans h2) H₂ ((hy.mono (g1.trans h2)).append (.cons hyv .nil)) hys (by simp)
        · cases hg
      · cases hg
    · rename_i hct
      have tst := ht I oI C oC D ys m₂ v fz _ false hC hx h0 (hd.mono h1) hct
      refine wpAny_mono (tst fz _ _ (Sub.refl _) H fun s₁ fz₁ g1 H₁ => ?_) (fun _ _ q => q) (fun _ _ q => q.elim)
      rw [if_neg Bool.false_ne_true]
      exact step s₁ fz₁ .none ys yd rest g1 H₁ (hy.mono g1) hg rfl
    · cases hg
end
end RegLaw

namespace RegLaw
open PySem PySem.Calls PySem.W PyProof.Rows

theorem folded_py (e : X) (env : Env) (x : Value) : foldedSetIterable e.py env x = pure x := by
  cases e <;> simp only [X.py] <;> rfl

section
variable {prog : Program} {w : World} {A : Around} {E : Value → Shared → Prop} {s : Shared} {h₀ : Heap} {L : Addr} {m : Str → Option Value} {env : Env}
theorem tup_st {ax I : Addr} {its : Array Value} : ∀ i (h h' : Heap) (o : Obj) (nw : List (Addr × Obj)), (h.IsTupleIter I ax i ∧ h.IsTuple ax its) → h.get? I = some o → h'.get? I = some o → (∀ b o, h₀.get? b = some o → h'.get? b = some o) → News h₀ L h' nw →
    (∃ o, (ax, o) ∈ nw ∧ o.cls = .type "tuple" ∧ ∃ n, o.data = .seq its n) → (h'.IsTupleIter I ax i ∧ h'.IsTuple ax its) :=
  fun i h h' o nw st e e' k N S => ⟨by obtain ⟨o', q, r⟩ := st.1; rw [e] at q; cases q; exact ⟨o, e', r⟩, by obtain ⟨o', hm, r⟩ := S; exact ⟨o', (N _ hm).1, r⟩⟩
theorem ListComp_Tt {ct elt iter : Expr} {x : Str} {px : Pos} {scope : Scope} {cl : List (Str × Addr)} {pos : Pos} {Q : Value → Shared → Prop}
    (hclos : closureFor scope env = pure cl) (hcell : ∀ y ∈ scope.names, y.2 ≠ .cell) (hkind : scope.kind = .function)
    (hnames : ∀ y ∈ scope.names, y.2 = .local → scope.names.lookup y.1 = some .local) (hx : scope.names.lookup x = some .local)
    (h : wpAny (model prog w) A (eval iter env) (fun xv s₁ => ∃ ax its news, xv = .ref ax ∧ A.handled = none ∧ Fr h₀ L s₁.heap m ∧ News h₀ L s₁.heap news ∧ (∃ o, (ax, o) ∈ news ∧ o.cls = .type "tuple" ∧ ∃ n, o.data = .seq its n) ∧ its.size ≤ sizeLine ∧
      ∀ s₂ : Shared, (∃ h, s₂ = { s₁ with heap := h }) → LCt.CompRestT prog w A h₀ L m env ct elt x scope cl s₂ (fun nw => ∃ o, (ax, o) ∈ nw ∧ o.cls = .type "tuple" ∧ ∃ n, o.data = .seq its n) (fun i v => its[i]? = some v) (LCg.FinE h₀ L m s₂ Q) its.size 0 [] news) E s)
    (hs : ∀ x, foldedSetIterable iter env x = pure x) :
    wpAny (model prog w) A (eval (.ListComp elt [⟨.Name x px, iter, [ct], 0⟩] scope pos) env) Q E s := by
  rw [eval_ListComp]
  refine wpAny_comprehension_free (use := none) rfl hs hclos hkind hnames (wpAny_mono h (fun xv s₁ h₁ => ?_) fun _ _ e => e)
  obtain ⟨ax, its, news, rfl, hh, F, N, S, hsz, R⟩ := h₁
  have hl : s₁.heap.IsTuple ax its := by obtain ⟨o, hm, r⟩ := S; exact ⟨o, (N _ hm).1, r⟩
  have hlt : ax < s₁.heap.objs.size := by obtain ⟨_, e, _⟩ := hl; exact Heap.lt_size e
  refine wpAny_pyIter_tuple hl ?_
  have up : ∀ b o, s₁.heap.get? b = some o → (s₁.heap.push { cls := .type "tuple_iterator", data := .fields #[.ref ax, .int 0 0] }).get? b = some o := fun b o e => Heap.get?_push_of_some _ e
  refine LCt.block_T (Walks.tuple hh s₁.heap.objs.size ax (Nat.ne_of_lt hlt) its) hsz (fun i h st => by obtain ⟨o, e, _⟩ := st.1; exact ⟨o, e⟩) tup_st hcell hkind hx ⟨⟨_, Heap.get?_push_size _ rfl, rfl, rfl⟩, hl.at fun o e => Heap.get?_push_of_some _ e⟩ (fun b hb => ?_)
    (F.keeps up) (N.grown up) (Nat.ne_of_lt F.ns.lt) (next_is_new F) (fun p hp => Nat.ne_of_lt (Heap.lt_size (N p hp).1)) S (R _ ⟨_, rfl⟩) ?_
  · show b < (s₁.heap.push _).objs.size
    rw [Heap.size_push]
    rcases List.mem_cons.mp hb with rfl | hb
    · exact Nat.lt_succ_self _
    · rw [List.mem_singleton.mp hb]; exact Nat.lt_succ_of_lt hlt
  · intro D C h tk m' ys news' F' N' o1 hn hC₀ hD₀ hCL hDL hCD offC fin
    refine ⟨m', hn, fun h'' hs'' => fin D h'' tk (F'.change hs'' hCL hC₀) (fun p hp => ?_) o1⟩
    refine ⟨hs''.extBut _ _ ?_ (N' p hp).1, (N' p hp).2⟩
    rcases List.mem_cons.mp hp with rfl | hp
    · exact Ne.symm hCD
    · exact offC p hp
end

/- what is asked of a block's scope -/
structure ScOk (env : Env) (sc : Scope) (x : Str) (cl : List (Str × Addr)) : Prop where
  cells : closL env.cells sc.names [] = some cl
  nocell : ∀ y ∈ sc.names, y.2 ≠ .cell
  kind : sc.kind = .function
  names : ∀ y ∈ sc.names, y.2 = .local → sc.names.lookup y.1 = some .local
  x : sc.names.lookup x = some .local

section
variable {prog : Program} {w : World} {V : Vl} {F : Fx} {A : Around} {fz₀ fz : List (Addr × Obj)} {env : Env} {d : SD} {K : Frag} {T : Tb} {p : Program} {loose : List Str} {mean : ExcName → Option Value} {mg mb : Str → Option Value} {n : Nat}
theorem off1_nodup {D : Addr} {o : Obj} {keep : List (Addr × Obj)} (off : LCg.Off1 D (fz ++ keep)) (nd : ((fz ++ keep).map (·.1)).Nodup) : ((((D, o) :: fz) ++ keep).map (·.1)).Nodup := by
  have key : ∀ l : List (Addr × Obj), LCg.Off1 D l → ∀ p ∈ l, p.1 ≠ D := by
    intro l
    induction l with
    | nil => intro _ p hp; cases hp
    | cons q r ih =>
      intro h p hp
      rcases List.mem_cons.mp hp with rfl | hp
      · exact h.1
      · exact ih h.2 p hp
  rw [List.cons_append, List.map_cons, List.nodup_cons]
  refine ⟨fun hm => ?_, nd⟩
  obtain ⟨q, hq, e⟩ := List.mem_map.mp hm
  exact key _ off q hq e
theorem fin_e {Q : Value → Shared → Prop} {fzb : List (Addr × Obj)} {rest : List SD} {s₂ : Shared} (hs₂ : ∃ h tk, s₂ = { F.s₀ with heap := h, toks := tk })
    (k : ∀ v s' fz', Sub fzb fz' → Hp F fz' s' → VIn V fz' v (.lst rest) → Q v s') : ∀ ys' fz', Sub fzb fz' → ((fz' ++ F.keep).map (·.1)).Nodup → VAll V fz' ys' ([] ++ rest) → LCg.FinE F.h₀ F.L F.m s₂ Q ys' (fz' ++ F.keep) := by
  intro ys' fz' h1 nd hall D h tk F' N' off
  obtain ⟨hh, tk0, es⟩ := hs₂
  refine k (.ref D) _ ((D, LCg.lst ys') :: fz') (h1.trans (Sub.cons _)) ⟨F', N', off1_nodup off nd, h, tk, by rw [es]⟩ (.lst (.head _) ⟨_, rfl⟩ ?_)
  rw [List.nil_append] at hall
  exact hall.mono (Sub.cons _)

theorem ev_cmprU {elt : Expr} {x : Str} {px q : Pos} {src : X} {sc : Scope} {cl : List (Str × Addr)} {ds ys : List SD} {f : SD → Option SD} (C : FOk K p loose mean mg mb F A n) (S : ScOk env sc x cl)
    (hsrc : EvV prog w V F A (eval src.py env) fz₀ (.lst ds)) (hsz : szL ds = true) (he : EltOK prog w V F A env fz₀ elt x sc cl f) (hg : compGo f (fun _ => some true) ds = some ys) :
    EvV prog w V F A (eval (.ListComp elt [⟨.Name x px, src.py, [], 0⟩] sc q) env) fz₀ (.lst ys) := by
  intro fz s Q hs H k
  have hsz := szL_is hsz
  refine LCg.ListComp_U H.fr (closureFor_is S.cells) S.nocell S.kind S.names S.x ?_ (folded_py src env)
  refine hsrc fz s _ hs H fun v s₁ fz₁ h1 H₁ hv => ?_
  cases hv with
  | @lst ax o vs _ hm kk r =>
    obtain ⟨nn, rfl⟩ := kk
    have z := r.length
    refine .inl ⟨ax, vs.toArray, fz₁ ++ F.keep, rfl, C.handled, H₁.fr, H₁.nw, .inr ⟨_, H₁.sub _ hm, rfl, nn, rfl⟩, by rw [List.size_toArray]; have := sizeLine_ge; omega, ?_⟩
    rintro s₂ ⟨h, rfl⟩
    obtain ⟨hh, tk0, es⟩ := H₁.sh
    have hs₂ : ∃ h' tk, ({ s₁ with heap := h } : Shared) = { F.s₀ with heap := h', toks := tk } := ⟨h, tk0, by rw [es]⟩
    rw [List.size_toArray, z]
    refine comp_rest (all := ds) (fzs := fz₁) hs₂ he (fun i v d hv hd => ?_) (fun fz' hsub => .inr ⟨_, List.mem_append_left _ (hsub _ hm), rfl, nn, rfl⟩) ds.length 0 fz₁ [] [] ys (by omega) (hs.trans h1) (Sub.refl _) H₁.nd .nil (by simpa using hg) ?_
    · have hv' : vs[i]? = some v := by simpa using hv
      obtain ⟨v', hv'', hvd⟩ := r.get hd
      rw [hv'] at hv''
      cases hv''
      exact hvd
    · exact fin_e hs₂ fun v s' fz' h2 => k v s' fz' (h1.trans h2)
theorem ev_cmprT {ct elt : Expr} {x : Str} {px q : Pos} {src : X} {sc : Scope} {cl : List (Str × Addr)} {ds ys : List SD} {f : SD → Option SD} {c : SD → Option Bool} (C : FOk K p loose mean mg mb F A n) (S : ScOk env sc x cl)
    (hd : d = .lst ds ∨ d = .tup ds) (hsrc : EvV prog w V F A (eval src.py env) fz₀ d) (hsz : szL ds = true) (he : EltOK prog w V F A env fz₀ elt x sc cl f) (ht : TestOK prog w V F A env fz₀ ct x sc cl c) (hg : compGo f c ds = some ys) :
    EvV prog w V F A (eval (.ListComp elt [⟨.Name x px, src.py, [ct], 0⟩] sc q) env) fz₀ (.lst ys) := by
  intro fz s Q hs H k
  have hsz := szL_is hsz
  rcases hd with rfl | rfl
  · refine LCt.ListComp_T H.fr (closureFor_is S.cells) S.nocell S.kind S.names S.x ?_ (folded_py src env)
    refine hsrc fz s _ hs H fun v s₁ fz₁ h1 H₁ hv => ?_
    cases hv with
    | @lst ax o vs _ hm kk r =>
      obtain ⟨nn, rfl⟩ := kk
      have z := r.length
      refine .inl ⟨ax, vs.toArray, fz₁ ++ F.keep, rfl, C.handled, H₁.fr, H₁.nw, .inr ⟨_, H₁.sub _ hm, rfl, nn, rfl⟩, by rw [List.size_toArray]; have := sizeLine_ge; omega, ?_⟩
      rintro s₂ ⟨h, rfl⟩
      obtain ⟨hh, tk0, es⟩ := H₁.sh
      have hs₂ : ∃ h' tk, ({ s₁ with heap := h } : Shared) = { F.s₀ with heap := h', toks := tk } := ⟨h, tk0, by rw [es]⟩
      rw [List.size_toArray, z]
      refine comp_restT (all := ds) (fzs := fz₁) hs₂ he ht (fun i v d hv hd => ?_) (fun fz' hsub => .inr ⟨_, List.mem_append_left _ (hsub _ hm), rfl, nn, rfl⟩) ds.length 0 fz₁ [] [] ys (by omega) (hs.trans h1) (Sub.refl _) H₁.nd .nil (by simpa using hg) ?_
      · have hv' : vs[i]? = some v := by simpa using hv
        obtain ⟨v', hv'', hvd⟩ := r.get hd
        rw [hv'] at hv''
        cases hv''
        exact hvd
      · exact fin_e hs₂ fun v s' fz' h2 => k v s' fz' (h1.trans h2)
  · refine ListComp_Tt (h₀ := F.h₀) (L := F.L) (m := F.m) (closureFor_is S.cells) S.nocell S.kind S.names S.x ?_ (folded_py src env)
    refine hsrc fz s _ hs H fun v s₁ fz₁ h1 H₁ hv => ?_
    cases hv with
    | @tup ax o vs _ hm kk r =>
      obtain ⟨nn, rfl⟩ := kk
      have z := r.length
      refine ⟨ax, vs.toArray, fz₁ ++ F.keep, rfl, C.handled, H₁.fr, H₁.nw, ⟨_, H₁.sub _ hm, rfl, nn, rfl⟩, by rw [List.size_toArray]; have := sizeLine_ge; omega, ?_⟩
      rintro s₂ ⟨h, rfl⟩
      obtain ⟨hh, tk0, es⟩ := H₁.sh
      have hs₂ : ∃ h' tk, ({ s₁ with heap := h } : Shared) = { F.s₀ with heap := h', toks := tk } := ⟨h, tk0, by rw [es]⟩
      rw [List.size_toArray, z]
      refine comp_restT (all := ds) (fzs := fz₁) hs₂ he ht (fun i v d hv hd => ?_) (fun fz' hsub => ⟨_, List.mem_append_left _ (hsub _ hm), rfl, nn, rfl⟩) ds.length 0 fz₁ [] [] ys (by omega) (hs.trans h1) (Sub.refl _) H₁.nd .nil (by simpa using hg) ?_
      · have hv' : vs[i]? = some v := by simpa using hv
        obtain ⟨v', hv'', hvd⟩ := r.get hd
        rw [hv'] at hv''
        cases hv''
        exact hvd
      · exact fin_e hs₂ fun v s' fz' h2 => k v s' fz' (h1.trans h2)
end
end RegLaw

namespace RegLaw
open PySem PySem.Calls PySem.W PyProof.Rows

section
variable {prog : Program} {w : World} {V : Vl} {F : Fx} {A : Around} {fz₀ fz : List (Addr × Obj)} {env : Env} {d : SD} {K : Frag} {T : Tb} {p : Program} {loose : List Str} {mean : ExcName → Option Value} {mg mb : Str → Option Value} {n : Nat}

theorem rng_then {hi : X} {pn pr : Pos} {j : SD} {k : Nat} (hV : V.Ok) (C : FOk K p loose mean mg mb F A n) (O : EOk env) (KK : KOk K w T) (hx : env.kindOf "range" = some .globalImplicit)
    (hhi : EvV prog w V F A (eval hi.py env) fz₀ j) (hk : natOf j = some k) {s : Shared} {Q : Value → Shared → Prop} (hs : Sub fz₀ fz) (H : Hp F fz s)
    (q : ∀ r s' fz' t₁ u₁ v₁, Sub fz fz' → Hp F fz' s' → IsRange s'.heap r 0 (Int.ofNat k) 1 t₁ u₁ v₁ → Q (.ref r) s') : wpAny (model prog w) A (eval (.Call (.Name "range" pn) [hi.py] [] pr) env) Q No s := by
  obtain ⟨rfl, hb⟩ := natOf_is hk
  refine Call_ (name_Bi C O H hx KK.range boot_range (by decide) (by decide) ?_)
  refine callWith_type1 ?_ (starEach_py hi [] env) rfl
  refine spliced_more ?_ (starEach_py hi [] env)
  refine hhi fz s _ hs H fun u s₁ fz₁ h1 H₁ hu => spliced_none ?_
  cases hu with
  | int _ t =>
    rw [ev_const hV]
    refine range1_rows H₁.fr H₁.nw fun h' tk t₁ u₁ v₁ hr F' N' _ => ?_
    exact q _ _ fz₁ _ _ _ h1 (H₁.at F' N') hr
theorem folded_range {e : Expr} {pn pr : Pos} (env : Env) (x : Value) : foldedSetIterable (.Call (.Name "range" pn) [e] [] pr) env x = pure x := rfl

theorem rangeD_get : ∀ (n i j : Nat) (d : SD), (rangeD i n)[j]? = some d → d = .int ⟨0, .ofNat (i + j)⟩
  | 0, i, j, d, h => by simp [rangeD] at h
  | n + 1, i, 0, d, h => by simp [rangeD] at h; rw [← h]; rfl
  | n + 1, i, j + 1, d, h => by
    simp only [rangeD, List.getElem?_cons_succ] at h
    rw [rangeD_get n (i + 1) j d h]
    congr 3
    omega
theorem rangeD_len : ∀ (n i : Nat), (rangeD i n).length = n
  | 0, i => rfl
  | n + 1, i => by simp [rangeD, rangeD_len n]

theorem ev_cmprR {elt : Expr} {x : Str} {px q pn pr : Pos} {hi : X} {sc : Scope} {cl : List (Str × Addr)} {ys : List SD} {f : SD → Option SD} {j : SD} {k : Nat} (hV : V.Ok) (C : FOk K p loose mean mg mb F A n) (O : EOk env) (KK : KOk K w T) (hx : env.kindOf "range" = some .globalImplicit) (S : ScOk env sc x cl)
    (hhi : EvV prog w V F A (eval hi.py env) fz₀ j) (hk : natOf j = some k) (he : EltOK prog w V F A env fz₀ elt x sc cl f) (hg : compGo f (fun _ => some true) (rangeD 0 k) = some ys) :
    EvV prog w V F A (eval (.ListComp elt [⟨.Name x px, .Call (.Name "range" pn) [hi.py] [] pr, [], 0⟩] sc q) env) fz₀ (.lst ys) := by
  intro fz s Q hs H kk
  obtain ⟨_, hb⟩ := natOf_is hk
  refine LCg.ListComp_U H.fr (closureFor_is S.cells) S.nocell S.kind S.names S.x ?_ (folded_range env)
  refine rng_then hV C O KK hx hhi hk hs H fun r s₁ fz₁ t₁ u₁ v₁ h1 H₁ hr => ?_
  refine .inr ⟨r, 0, Int.ofNat k, t₁, u₁, v₁, k, fz₁ ++ F.keep, rfl, C.handled, H₁.fr, H₁.nw, hr, small_one (by decide) (by decide) (by simp) (by simp; omega), by rw [rangeSize_nat]; simp, by have := sizeLine_ge; omega, ?_⟩
  rintro s₂ ⟨h, rfl⟩
  obtain ⟨hh, tk0, es⟩ := H₁.sh
  have hs₂ : ∃ h' tk, ({ s₁ with heap := h } : Shared) = { F.s₀ with heap := h', toks := tk } := ⟨h, tk0, by rw [es]⟩
  refine comp_rest (all := rangeD 0 k) (fzs := fz₁) hs₂ he (fun i v d hv hd => ?_) (fun _ _ => trivial) k 0 fz₁ [] [] ys (by rw [rangeD_len]; omega) (hs.trans h1) (Sub.refl _) H₁.nd .nil (by simpa using hg) ?_
  · obtain ⟨t, rfl⟩ := hv
    rw [rangeD_get _ _ _ _ hd]
    have e : ((0 : Int) + (i : Int)) = (IE.mk 0 (Int.ofNat (0 + i))).ev V := by rw [ev_const hV]; simp
    rw [e]
    exact .int _ _
  · exact fin_e hs₂ fun v s' fz' h2 => kk v s' fz' (h1.trans h2)
theorem ev_cmprRT {elt ct : Expr} {x : Str} {px q pn pr : Pos} {hi : X} {sc : Scope} {cl : List (Str × Addr)} {ys : List SD} {f : SD → Option SD} {c : SD → Option Bool} {j : SD} {k : Nat} (hV : V.Ok) (C : FOk K p loose mean mg mb F A n) (O : EOk env) (KK : KOk K w T) (hx : env.kindOf "range" = some .globalImplicit) (S : ScOk env sc x cl)
    (hhi : EvV prog w V F A (eval hi.py env) fz₀ j) (hk : natOf j = some k) (he : EltOK prog w V F A env fz₀ elt x sc cl f) (ht : TestOK prog w V F A env fz₀ ct x sc cl c) (hg : compGo f c (rangeD 0 k) = some ys) :
    EvV prog w V F A (eval (.ListComp elt [⟨.Name x px, .Call (.Name "range" pn) [hi.py] [] pr, [ct], 0⟩] sc q) env) fz₀ (.lst ys) := by
  intro fz s Q hs H kk
  obtain ⟨_, hb⟩ := natOf_is hk
  refine LCt.ListComp_T H.fr (closureFor_is S.cells) S.nocell S.kind S.names S.x ?_ (folded_range env)
  refine rng_then hV C O KK hx hhi hk hs H fun r s₁ fz₁ t₁ u₁ v₁ h1 H₁ hr => ?_
  refine .inr ⟨r, 0, Int.ofNat k, t₁, u₁, v₁, k, fz₁ ++ F.keep, rfl, C.handled, H₁.fr, H₁.nw, hr, small_one (by decide) (by decide) (by simp) (by simp; omega), by rw [rangeSize_nat]; simp, by have := sizeLine_ge; omega, ?_⟩
  rintro s₂ ⟨h, rfl⟩
  obtain ⟨hh, tk0, es⟩ := H₁.sh
  have hs₂ : ∃ h' tk, ({ s₁ with heap := h } : Shared) = { F.s₀ with heap := h', toks := tk } := ⟨h, tk0, by rw [es]⟩
  refine comp_restT (all := rangeD 0 k) (fzs := fz₁) hs₂ he ht (fun i v d hv hd => ?_) (fun _ _ => trivial) k 0 fz₁ [] [] ys (by rw [rangeD_len]; omega) (hs.trans h1) (Sub.refl _) H₁.nd .nil (by simpa using hg) ?_
  · obtain ⟨t, rfl⟩ := hv
    rw [rangeD_get _ _ _ _ hd]
    have e : ((0 : Int) + (i : Int)) = (IE.mk 0 (Int.ofNat (0 + i))).ev V := by rw [ev_const hV]; simp
    rw [e]
    exact .int _ _
  · exact fin_e hs₂ fun v s' fz' h2 => kk v s' fz' (h1.trans h2)
end
end RegLaw

namespace RegLaw
open PySem PySem.Calls PySem.W PyProof.Rows

/- the static look: names by their kinds, texts by their codes -/
structure Ck where
  fs : Scope
  b : Option (Nat × Scope)
noncomputable def kindIs (sc : Scope) (x : Str) (k : NameKind) : Bool := sc.names.lookup x == some k
noncomputable def Ck.var (c : Ck) (e : X) : Bool := match e with
  | .loc x _ => c.b.isNone && kindIs c.fs (nm x) .local
  | .cel x _ => c.b.isNone && kindIs c.fs (nm x) .cell
  | .fre x _ => match c.b with
    | some (_, sc) => kindIs sc (nm x) .free && kindIs c.fs (nm x) .cell
    | none => false
  | .cvr x _ => match c.b with
    | some (y, sc) => Nat.beq x y && kindIs sc (nm x) .local
    | none => false
  | _ => false
noncomputable def Ck.glo (c : Ck) (x : Str) : Bool := match c.b with
  | some (_, sc) => kindIs sc x .globalImplicit
  | none => kindIs c.fs x .globalImplicit
noncomputable def Ck.blk (c : Ck) (x : Nat) (sc : Scope) : Bool := c.b.isNone && sc.kind == .function && kindIs sc (nm x) .local &&
  sc.names.all fun z => z.2 != .cell && (z.2 != .local || kindIs sc z.1 .local) && (z.2 != .free || kindIs c.fs z.1 .cell)
noncomputable def X.isShp : X → Bool
  | .shp .. => true
  | _ => false
mutual
noncomputable def chk (c : Ck) : X → Bool
  | .int _ _ | .neg _ _ _ | .bool _ _ | .emp _ => true
  | .str y l _ => lbeq y.cps.toList l
  | .loc x p => c.var (.loc x p)
  | .cel x p => c.var (.cel x p)
  | .fre x p => c.var (.fre x p)
  | .cvr x p => c.var (.cvr x p)
  | .sub e i _ => chk c e && chk c i
  | .sliT e hi _ _ => (e.isVar || e.isShp) && chk c e && chk c hi
  | .sliD e lo _ _ => e.isVar && chk c e && chk c lo
  | .sli e lo hi _ _ => e.isVar && chk c e && chk c lo && chk c hi
  | .shp e _ _ => c.glo "SHAPES" && chk c e
  | .lvg e _ _ => c.glo "LEAVING" && chk c e
  | .cmp _ a b _ => chk c a && chk c b
  | .inn _ a bs _ _ => chk c a && chks c bs
  | .or es _ => chks c es
  | .and es _ => chks c es
  | .not e _ => chk c e
  | .call f es _ _ => c.glo (gn f) && chks c es
  | .len e _ _ => c.glo "len" && chk c e
  | .strf e _ _ => c.glo "str" && chk c e
  | .repr e _ _ => c.glo "repr" && chk c e
  | .tuple e _ _ => c.glo "tuple" && chk c e
  | .isT e _ _ _ => c.glo "isinstance" && c.glo "tuple" && chk c e
  | .get m k d p q => m.isVar && (p.endLine == q.line) && chk c m && chk c k && chk c d
  | .join s e p q => s.isNm && (p.endLine == q.line) && chk c s && chk c e
  | .bin _ a b _ => chk c a && chk c b
  | .ife t a b _ => chk c t && chk c a && chk c b
  | .cmpr elt x _ src cond sc _ => c.blk x sc && chk c src && chk ⟨c.fs, some (x, sc)⟩ elt && chks ⟨c.fs, some (x, sc)⟩ cond
  | .cmprR elt x _ hi _ _ sc _ => c.glo "range" && c.blk x sc && chk c hi && chk ⟨c.fs, some (x, sc)⟩ elt
  | .cmprT elt x _ hi _ _ ct sc _ => c.glo "range" && c.blk x sc && chk c hi && chk ⟨c.fs, some (x, sc)⟩ elt && chk ⟨c.fs, some (x, sc)⟩ ct
  | .tup es _ => chks c es
  | .lst es _ => chks c es
noncomputable def chks (c : Ck) : List X → Bool
  | [] => true
  | e :: r => chk c e && chks c r
end
theorem chks_get {c : Ck} : ∀ {es : List X} {i : Nat} {e : X}, chks c es = true → es[i]? = some e → chk c e = true
  | [], i, e, _, h => by simp at h
  | x :: r, 0, e, hc, h => by
    rw [chks, Bool.and_eq_true] at hc
    simp at h
    rw [← h]; exact hc.1
  | x :: r, i + 1, e, hc, h => by
    rw [chks, Bool.and_eq_true] at hc
    simp only [List.getElem?_cons_succ] at h
    exact chks_get hc.2 h

noncomputable def valVar (g : G) (e : X) : Option SD := match e with
  | .loc x _ => look g.l x
  | .cel x _ | .fre x _ => match look g.c x with
    | some (some d) => some d
    | _ => none
  | .cvr _ _ => some g.v
  | _ => none

structure Nm0 (prog : Program) (w : World) (V : Vl) (F : Fx) (A : Around) (env : Env) (fz : List (Addr × Obj)) (g : G) (c : Ck) : Prop where
  var : ∀ e d, c.var e = true → valVar g e = some d → EvV prog w V F A (eval e.py env) fz d
  glo : ∀ x, c.glo x = true → env.kindOf x = some .globalImplicit
  e : EOk env
structure Nm (prog : Program) (w : World) (V : Vl) (F : Fx) (A : Around) (env : Env) (fz : List (Addr × Obj)) (g : G) (c : Ck) : Prop extends Nm0 prog w V F A env fz g c where
  blk : ∀ x sc, c.blk x sc = true → ∃ cl, ScOk env sc (nm x) cl ∧ ∀ I oI C oC D ys m₂ v fz' d, LCg.NsObj oC m₂ → m₂ (nm x) = some v → Sub fz fz' → VIn V fz' v d →
    Nm0 prog w V (blkF F I oI C oC D ys) A (compEnvC sc cl C env) fz' { g with v := d } ⟨c.fs, some (x, sc)⟩
theorem Nm0.up {prog : Program} {w : World} {V : Vl} {F : Fx} {A : Around} {env : Env} {fz : List (Addr × Obj)} {g : G} {fs : Scope} {z : Nat × Scope} (h : Nm0 prog w V F A env fz g ⟨fs, some z⟩) : Nm prog w V F A env fz g ⟨fs, some z⟩ :=
  { h with blk := fun x sc q => by simp [Ck.blk] at q }

/- what a call of the text's own must show -/
structure FnName (K : Frag) (f : Nat) (a : Addr) : Prop where
  ns : nsIn K mainGlobals (gn f) = some (some (.ref a))
  keep : keepIn K (.ref a) = true
  dbg : (gn f == ("__debug__" : Str)) = false
noncomputable def CallOK (prog : Program) (w : World) (V : Vl) (K : Frag) (p : Program) (loose : List Str) (mean : ExcName → Option Value) (mg mb : Str → Option Value) (cf : EvC) (n : Nat) : Prop :=
  ∀ f ds d, cf f ds = some d → ∃ a, FnName K f a ∧ ∀ F A fz vs, FOk K p loose mean mg mb F A n → VAll V fz vs ds → EvV prog w V F A (call (.ref a) vs) fz d

section
variable {prog : Program} {w : World} {V : Vl} {F : Fx} {A : Around} {fz₀ fz : List (Addr × Obj)} {env : Env} {d : SD} {K : Frag} {T : Tb} {p : Program} {loose : List Str} {mean : ExcName → Option Value} {mg mb : Str → Option Value} {n : Nat}
theorem py_slice (e : X) : ∀ l u st q, e.py ≠ .Slice l u st q := by
  intro l u st q
  cases e <;> simp [X.py]
theorem py_marks (o : CmpOp) (e : X) : behindInMarks o e.py = false := by
  cases e <;> simp only [X.py] <;> rfl
theorem evAll_is {ev : X → Option SD} : ∀ {es : List X} {ds : List SD}, evAll ev es = some ds → es.length = ds.length ∧ ∀ (i : Nat) (e : X) (d : SD), es[i]? = some e → ds[i]? = some d → ev e = some d
  | [], ds, h => by
    simp only [evAll] at h
    cases h
    exact ⟨rfl, fun i e d he => by simp at he⟩
  | e :: r, ds, h => by
    simp only [evAll] at h
    split at h
    · rename_i d hd
      split at h
      · rename_i ds' hds
        cases h
        obtain ⟨h1, h2⟩ := evAll_is hds
        refine ⟨by simp [h1], fun i e' d' he hd' => ?_⟩
        cases i with
        | zero => simp at he hd'; rw [← he, ← hd']; exact hd
        | succ i => exact h2 i e' d' (by simpa using he) (by simpa using hd')
      · cases h
    · cases h

theorem ev_call {f : Nat} {es : List X} {q r : Pos} {ds : List SD} {cf : EvC} (C : FOk K p loose mean mg mb F A n) (O : EOk env) (hx : env.kindOf (gn f) = some .globalImplicit) (CO : CallOK prog w V K p loose mean mg mb cf n)
    (hl : ∀ pos, EvL prog w V F A (spliced (backTo pos (starEach (pys es) env))) fz₀ ds) (hle : es.length = ds.length) (hc : cf f ds = some d) : EvV prog w V F A (eval (.Call (.Name (gn f) q) (pys es) [] r) env) fz₀ d := by
  intro fz s Q hs H k
  obtain ⟨a, N, hcall⟩ := CO f ds d hc
  refine Call_ (name_G C O H hx N.ns N.dbg ?_)
  cases es with
  | nil =>
    rw [pys]
    refine callWith_K0 (C.kin.keeps H.fr.keep) N.keep ?_
    have hds : ds = [] := by
      cases ds with
      | nil => rfl
      | cons d ds => simp at hle
    subst hds
    exact hcall F A fz [] C .nil fz s _ (Sub.refl _) H k
  | cons e es =>
    rw [pys]
    refine callWith_K C.kin N.keep ?_ (starEach_py e _ env) (starEach_plain r es env)
    have hl' := hl r
    rw [pys] at hl'
    refine hl' fz s _ hs H fun vs s₁ fz₁ h1 H₁ hv => ⟨C.kin.keeps H₁.fr.keep, ?_⟩
    exact hcall F A fz₁ vs C hv fz₁ s₁ _ (Sub.refl _) H₁ fun v s₂ fz₂ h2 H₂ hr => k v s₂ fz₂ (h1.trans h2) H₂ hr

/- truth of several, one behind the other -/
theorem any_true {ev : X → Option Bool} {q : Pos} {whole : Sem Value} : ∀ {es : List X} {b : Bool}, anyT ev true es = some b →
    (∀ (i : Nat) (e : X) (b : Bool), es[i]? = some e → ev e = some b → EvB prog w F A (isTrue e.py env (eval e.py env)) fz₀ b) → EvB prog w F A (isTrue (.BoolOp .Or (pys es) q) env whole) fz₀ b
  | [], b, h, _ => fun fz s Q hs H k => by
    simp only [anyT] at h
    cases h
    rw [pys]
    exact isTrue_or_nil (k s fz (Sub.refl _) H)
  | e :: r, b, h, he => fun fz s Q hs H k => by
    simp only [anyT] at h
    rw [pys]
    split at h
    · rename_i c hc
      refine isTrue_or (he 0 e c rfl hc fz s _ hs H fun s₁ fz₁ h1 H₁ => ?_)
      split at h
      · rename_i e1
        cases h
        have : c = true := eq_of_beq e1
        subst this
        exact k s₁ fz₁ h1 H₁
      · rename_i e1
        have : c = false := by cases c; rfl; simp at e1
        subst this
        simp only [Bool.false_eq_true, if_false]
        exact any_true h (fun i e' b' hi hb => he (i + 1) e' b' (by simpa using hi) hb) fz₁ s₁ _ (hs.trans h1) H₁ fun s₂ fz₂ h2 H₂ => k s₂ fz₂ (h1.trans h2) H₂
    · cases h
theorem any_false {ev : X → Option Bool} {q : Pos} {whole : Sem Value} : ∀ {es : List X} {b : Bool}, anyT ev false es = some b →
    (∀ (i : Nat) (e : X) (b : Bool), es[i]? = some e → ev e = some b → EvB prog w F A (isTrue e.py env (eval e.py env)) fz₀ b) → EvB prog w F A (isTrue (.BoolOp .And (pys es) q) env whole) fz₀ b
  | [], b, h, _ => fun fz s Q hs H k => by
    simp only [anyT] at h
    cases h
    rw [pys]
    exact isTrue_and_nil (k s fz (Sub.refl _) H)
  | e :: r, b, h, he => fun fz s Q hs H k => by
    simp only [anyT] at h
    rw [pys]
    split at h
    · rename_i c hc
      refine isTrue_and (he 0 e c rfl hc fz s _ hs H fun s₁ fz₁ h1 H₁ => ?_)
      split at h
      · rename_i e1
        cases h
        have : c = false := eq_of_beq e1
        subst this
        exact k s₁ fz₁ h1 H₁
      · rename_i e1
        have : c = true := by cases c; simp at e1; rfl
        subst this
        simp only [if_true]
        exact any_false h (fun i e' b' hi hb => he (i + 1) e' b' (by simpa using hi) hb) fz₁ s₁ _ (hs.trans h1) H₁ fun s₂ fz₂ h2 H₂ => k s₂ fz₂ (h1.trans h2) H₂
    · cases h
theorem eb_plain {e : Expr} {b : Bool} (h : EvV prog w V F A (eval e env) fz₀ (.bool b)) (he : isTrue e env (eval e env) = (do let v ← eval e env; standAt e.pos; holding [v] (truthy v))) : EvB prog w F A (isTrue e env (eval e env)) fz₀ b := by
  intro fz s Q hs H k
  refine isTrue_plain (h fz s _ hs H fun v s₁ fz₁ h1 H₁ hv => ?_) he
  cases hv
  exact wpAny_truthy_bool (k s₁ fz₁ h1 H₁)
theorem boolOf_is {o : Option SD} {b : Bool} (h : boolOf o = some b) : o = some (.bool b) := by
  unfold boolOf at h
  split at h
  · cases h; rfl
  · cases h
end
end RegLaw

namespace RegLaw
open PySem PySem.Calls PySem.W PyProof.Rows

noncomputable def ExprOK (prog : Program) (w : World) (V : Vl) (K : Frag) (T : Tb) (p : Program) (loose : List Str) (mean : ExcName → Option Value) (mg mb : Str → Option Value) (n : Nat) : Prop :=
  ∀ t g e d, (evs T n).x t g e = some d → ∀ F A env fz c, FOk K p loose mean mg mb F A n → Nm prog w V F A env fz g c → chk c e = true →
    (t = false → EvV prog w V F A (eval e.py env) fz d) ∧ (t = true → ∃ b, d = .bool b ∧ EvB prog w F A (isTrue e.py env (eval e.py env)) fz b)

section
variable {prog : Program} {w : World} {V : Vl} {F : Fx} {A : Around} {fz : List (Addr × Obj)} {env : Env} {d : SD} {K : Frag} {T : Tb} {p : Program} {loose : List Str} {mean : ExcName → Option Value} {mg mb : Str → Option Value} {n : Nat} {g : G} {c : Ck}
theorem FOk.units64 (C : FOk K p loose mean mg mb F A n) : A.units + 64 < cLine := by have := C.units; omega
theorem FOk.blk (C : FOk K p loose mean mg mb F A n) (I oI C' oC D ys) : FOk K p loose mean mg mb (blkF F I oI C' oC D ys) A n :=
  ⟨C.below, C.kin, C.top, C.handled, C.guards, C.depth, C.units⟩
theorem andT {a b : Bool} (h : (a && b) = true) : a = true ∧ b = true := by simpa using h

theorem val_sound (hV : V.Ok) (KK : KOk K w T) (ih : ExprOK prog w V K T p loose mean mg mb n) (co : CallOK prog w V K p loose mean mg mb (evs T n).c n) {e : X} (h : valX T (evs T n).x (evs T n).c g e = some d)
    (C : FOk K p loose mean mg mb F A n) (N : Nm prog w V F A env fz g c) (hc : chk c e = true) : EvV prog w V F A (eval e.py env) fz d := by
  have iv : ∀ {e d}, (evs T n).x false g e = some d → chk c e = true → EvV prog w V F A (eval e.py env) fz d := fun h k => (ih _ _ _ _ h F A env fz c C N k).1 rfl
  have it : ∀ {e b}, boolOf ((evs T n).x true g e) = some b → chk c e = true → EvB prog w F A (isTrue e.py env (eval e.py env)) fz b := fun h k => by
    obtain ⟨b', e1, e2⟩ := (ih _ _ _ _ (boolOf_is h) F A env fz c C N k).2 rfl
    cases e1
    exact e2
  have il : ∀ {es ds}, evAll ((evs T n).x false g) es = some ds → chks c es = true → ∀ pos, EvL prog w V F A (spliced (backTo pos (starEach (pys es) env))) fz ds := fun h k pos => by
    obtain ⟨h1, h2⟩ := evAll_is h
    exact el_all (fun i e d he hd => iv (h2 i e d he hd) (chks_get k he)) h1
  have O := N.e
  cases e with
  | int k q =>
    delta valX at h; dsimp only at h
    split at h
    · cases h
      refine .pure1 fun s Q kk => wpAny_Constant_int ?_
      have e1 : (k : Int) = (IE.mk 0 (Int.ofNat k)).ev V := by rw [ev_const hV]; rfl
      rw [e1]
      exact kk _ _ (.int _ _)
    · cases h
  | neg k q r =>
    delta valX at h; dsimp only at h
    split at h
    · cases h
      refine .pure1 fun s Q kk => UnaryOp_ (wpAny_Constant_int (P.neg_int ?_))
      have e1 : (-(k : Int)) = (IE.mk 0 (-(Int.ofNat k))).ev V := by rw [ev_const hV]; rfl
      rw [e1]
      exact kk _ _ (.int _ _)
    · cases h
  | str y l q =>
    delta valX at h; dsimp only at h
    cases h
    refine .pure1 fun s Q kk => Calls.Constant_str ?_
    have e1 : y = txt V (mkLit l) := by
      unfold txt
      rw [mkLit_is, ← lbeq_is.mp hc]
    rw [e1]
    exact kk _ _ (.str _ _)
  | bool b q =>
    delta valX at h; dsimp only at h
    cases h
    exact .pure1 fun s Q kk => Constant_bool (kk _ s.toks (.bool _))
  | loc x q => exact N.var _ _ hc h
  | cel x q => exact N.var _ _ hc h
  | fre x q => exact N.var _ _ hc h
  | cvr x q => exact N.var _ _ hc h
  | sub e i q =>
    delta valX at h; dsimp only at h
    have hc := andT hc
    split at h
    · rename_i x hx
      split at h
      · rename_i j hj
        split at h
        · rename_i k hk
          exact ev_sub (iv hx hc.1) (iv hj hc.2) fun fz' u v hs hu hv => item_sound hV hk h (py_slice i) hu hv
        · cases h
      · cases h
    · cases h
  | sliT e hi q r =>
    delta valX at h; dsimp only at h
    have hc := andT hc
    have hc1 := andT hc.1
    split at h
    · rename_i x hx
      split at h
      · rename_i j hj
        split at h
        · rename_i k hk
          refine ev_sliT hV ?_ (iv hx hc1.2) (iv hj hc.2) hk h
          rw [Bool.or_eq_true] at hc1
          rcases hc1.1 with z | z
          · exact .inl z
          · refine .inr ?_
            have hval := ih _ _ _ _ hx F A env fz c C N hc1.2
            cases e <;> first | (simp [X.isShp] at z; done) | skip
            cases n with
            | zero => simp [evs] at hx
            | succ m =>
              simp only [evs, stepX, valX] at hx
              split at hx
              · split at hx
                · split at hx
                  · cases hx; exact ⟨_, rfl⟩
                  · cases hx
                · cases hx
              · cases hx
        · cases h
      · cases h
    · cases h
  | sliD e lo q r =>
    delta valX at h; dsimp only at h
    have hc := andT hc
    have hc1 := andT hc.1
    split at h
    · rename_i x hx
      split at h
      · rename_i j hj
        split at h
        · rename_i k hk
          exact ev_sliD hV hc1.1 (iv hx hc1.2) (iv hj hc.2) hk h
        · cases h
      · cases h
    · cases h
  | sli e lo hi q r =>
    delta valX at h; dsimp only at h
    have hc := andT hc
    have hc1 := andT hc.1
    have hc2 := andT hc1.1
    split at h
    · cases h
    · rename_i x hns hx
      split at h
      · rename_i i hi'
        split at h
        · rename_i j hj
          split at h
          · rename_i a b ha hb
            exact ev_sli hV (.inl hc2.1) (iv hx hc2.2) (iv hi' hc1.2) (iv hj hc.2) ha hb h (fun ps e => hns ps (by rw [e]))
          · cases h
        · cases h
      · cases h
    · cases h
  | shp e q r =>
    delta valX at h; dsimp only at h
    have hc := andT hc
    split at h
    · rename_i ps hx
      split at h
      · rename_i l hl
        split at h
        · rename_i x hr
          cases h
          exact ev_shp C O KK (N.glo _ hc.1) (py_slice e) (iv hx hc.2) hl hr
        · cases h
      · cases h
    · cases h
  | lvg e q r =>
    delta valX at h; dsimp only at h
    have hc := andT hc
    split at h
    · rename_i ps hx
      split at h
      · rename_i l hl
        cases h
        exact ev_lvg C O KK (N.glo _ hc.1) (iv hx hc.2) hl
      · cases h
    · cases h
  | cmp o a b q =>
    delta valX at h; dsimp only at h
    have hc := andT hc
    split at h
    · rename_i x hx
      split at h
      · rename_i y hy
        split at h
        · rename_i r hr
          cases h
          exact ev_cmp (iv hx hc.1) (iv hy hc.2) (fun fz' u v hs hu hv => compare_sound hV C.units64 hr hu hv) (py_marks o b)
        · cases h
      · cases h
    · cases h
  | inn neg a bs q r =>
    delta valX at h; dsimp only at h
    have hc := andT hc
    split at h
    · rename_i ps hx
      split at h
      · rename_i l hl
        split at h
        · rename_i ds hds
          split at h
          · rename_i hsz
            split at h
            · rename_i ls hls
              have z := ev_inn (neg := neg) (q := q) (r := r) hsz (iv hx hc.1) hl (il hds hc.2) hls
              cases neg
              · simp only [Bool.false_eq_true, if_false] at h z ⊢
                cases h
                exact z
              · simp only [if_true] at h z ⊢
                cases h
                exact z
            · cases h
          · cases h
        · cases h
      · cases h
    · cases h
  | or es q => delta valX at h; dsimp only at h; cases h
  | and es q => delta valX at h; dsimp only at h; cases h
  | not e q => delta valX at h; dsimp only at h; cases h
  | call f es q r =>
    delta valX at h; dsimp only at h
    have hc := andT hc
    split at h
    · rename_i ds hds
      exact ev_call C O (N.glo _ hc.1) co (il hds hc.2) (evAll_is hds).1 h
    · cases h
  | len e q r =>
    delta valX at h; dsimp only at h
    have hc := andT hc
    split at h
    · rename_i x hx
      exact ev_bi1 C O (N.glo _ hc.1) KK.len boot_len (by decide) (by decide) (iv hx hc.2) fun fz' u hs hu => op_len h hV hu
    · cases h
  | strf e q r =>
    delta valX at h; dsimp only at h
    have hc := andT hc
    split at h
    · rename_i x hx
      exact ev_ty1 C O (N.glo _ hc.1) KK.str boot_str (by decide) (by decide) (iv hx hc.2) fun fz' u hs hu => op_str h hV C hu
    · cases h
  | repr e q r =>
    delta valX at h; dsimp only at h
    have hc := andT hc
    split at h
    · rename_i ds hx
      split at h
      · rename_i ho
        have ho := andT ho
        cases h
        exact ev_bi1 C O (N.glo _ hc.1) KK.repr boot_repr (by decide) (by decide) (iv hx hc.2) fun fz' u hs hu => op_repr hV C ho.1 ho.2 hu
      · cases h
    · cases h
  | tuple e q r =>
    delta valX at h; dsimp only at h
    have hc := andT hc
    split at h
    · rename_i ds hx
      split at h
      · rename_i ho
        cases h
        exact ev_ty1 C O (N.glo _ hc.1) KK.tuple boot_tuple (by decide) (by decide) (iv hx hc.2) fun fz' u hs hu => op_tuple ho hu
      · cases h
    · cases h
  | isT e q r t =>
    delta valX at h; dsimp only at h
    have hc := andT hc
    have hc1 := andT hc.1
    split at h
    · rename_i x hx
      refine ev_isT C O KK (N.glo _ hc1.1) (N.glo _ hc1.2) (iv hx hc.2) fun fz' u hs hu => ?_
      split at h
      · cases h
        exact op_isT_t hu
      · cases h
        exact op_isT_i hu
      · cases h
    · cases h
  | get m k dd q r =>
    delta valX at h; dsimp only at h
    have hc := andT hc
    have hc1 := andT hc.1
    have hc2 := andT hc1.1
    have hc3 := andT hc2.1
    split at h
    · rename_i hm
      split at h
      · rename_i x hx
        split at h
        · rename_i y hy
          exact ev_get hc3.1 hc3.2 (.inl rfl) (iv hm hc2.2) (iv hx hc1.2) (iv hy hc.2) ⟨fun _ => getM_is hV h, (fun z => by cases z)⟩
        · cases h
      · cases h
    · rename_i hm
      split at h
      · rename_i e hx
        exact ev_get hc3.1 hc3.2 (.inr rfl) (iv hm hc2.2) (iv hx hc1.2) (iv h hc.2) ⟨(fun z => by cases z), fun _ => ⟨⟨e, rfl⟩, rfl⟩⟩
      · cases h
    · cases h
  | join s e q r =>
    delta valX at h; dsimp only at h
    have hc := andT hc
    have hc1 := andT hc.1
    have hc2 := andT hc1.1
    split at h
    · rename_i sep hs
      split at h
      · rename_i ds hx
        split at h
        · rename_i hw
          split at h
          · rename_i ps hj
            cases h
            have hw := andT hw
            exact ev_join hV hc2.1 hc2.2 (iv hs hc1.2) (iv hx hc.2) hw.1 (by have := Nat.blt_eq.mp hw.2; omega) hj
          · cases h
        · cases h
      · cases h
    · cases h
  | bin o a b q =>
    delta valX at h; dsimp only at h
    have hc := andT hc
    split at h
    · rename_i x hx
      split at h
      · rename_i y hy
        exact ev_bin (iv hx hc.1) (iv hy hc.2) fun fz' u v hs hu hv => binary_sound hV h hu hv
      · cases h
    · cases h
  | ife t a b q =>
    delta valX at h; dsimp only at h
    have hc := andT hc
    have hc1 := andT hc.1
    split at h
    · rename_i ht
      exact ev_if (it ht hc1.1) (by simpa using iv h hc1.2)
    · rename_i ht
      exact ev_if (it ht hc1.1) (by simpa using iv h hc.2)
    · cases h
  | cmpr elt x px src cond sc q =>
    delta valX at h; dsimp only at h
    have hc := andT hc
    have hc1 := andT hc.1
    have hc2 := andT hc1.1
    obtain ⟨cl, S, hB⟩ := N.blk x sc hc2.1
    have he : EltOK prog w V F A env fz elt.py (nm x) sc cl (fun d => (evs T n).x false { g with v := d } elt) := fun I oI C' oC D ys m₂ v fz' d y hC hx hs hv hy =>
      (ih _ _ _ _ hy _ A _ fz' _ (C.blk I oI C' oC D ys) (hB I oI C' oC D ys m₂ v fz' d hC hx hs hv).up hc1.2).1 rfl
    split at h
    · rename_i dd hx
      split at h
      · split at h
        · rename_i ds
          split at h
          · rename_i hsz
            split at h
            · rename_i ys hg
              cases h
              exact ev_cmprU C S (iv hx hc2.2) hsz he hg
            · cases h
          · cases h
        · cases h
      · rename_i ct hcold
        skip
        have hct := (andT hc.2).1
        have ht : TestOK prog w V F A env fz ct.py (nm x) sc cl (fun d => boolOf ((evs T n).x true { g with v := d } ct)) := fun I oI C' oC D ys m₂ v fz' d b hC hx hs hv hy => by
          obtain ⟨b', e1, e2⟩ := (ih _ _ _ _ (boolOf_is hy) _ A _ fz' _ (C.blk I oI C' oC D ys) (hB I oI C' oC D ys m₂ v fz' d hC hx hs hv).up hct).2 rfl
          cases e1
          exact e2
        have fin : ∀ ds, (dd = .lst ds ∨ dd = .tup ds) → szL ds = true → ∀ ys, compGo (fun d => (evs T n).x false { g with v := d } elt) (fun d => boolOf ((evs T n).x true { g with v := d } ct)) ds = some ys → d = .lst ys → EvV prog w V F A (eval (X.cmpr elt x px src [ct] sc q).py env) fz d := by
          intro ds hd hsz ys hg e1
          subst e1
          exact ev_cmprT C S hd (iv hx hc2.2) hsz he ht hg
        split at h
        · rename_i ds
          split at h
          · rename_i hsz
            split at h
            · rename_i ys hg
              cases h
              exact fin ds (.inl rfl) hsz ys hg rfl
            · cases h
          · cases h
        · rename_i ds
          split at h
          · rename_i hsz
            split at h
            · rename_i ys hg
              cases h
              exact fin ds (.inr rfl) hsz ys hg rfl
            · cases h
          · cases h
        · cases h
      · cases h
    · cases h
  | cmprR elt x px hi pn pr sc q =>
    delta valX at h; dsimp only at h
    have hc := andT hc
    have hc1 := andT hc.1
    have hc2 := andT hc1.1
    obtain ⟨cl, S, hB⟩ := N.blk x sc hc2.2
    have he : EltOK prog w V F A env fz elt.py (nm x) sc cl (fun d => (evs T n).x false { g with v := d } elt) := fun I oI C' oC D ys m₂ v fz' d y hC hx hs hv hy =>
      (ih _ _ _ _ hy _ A _ fz' _ (C.blk I oI C' oC D ys) (hB I oI C' oC D ys m₂ v fz' d hC hx hs hv).up hc.2).1 rfl
    split at h
    · rename_i dd hx
      split at h
      · rename_i k hk
        split at h
        · rename_i ys hg
          cases h
          exact ev_cmprR hV C O KK (N.glo _ hc2.1) S (iv hx hc1.2) hk he hg
        · cases h
      · cases h
    · cases h
  | cmprT elt x px hi pn pr ct sc q =>
    delta valX at h; dsimp only at h
    have hc := andT hc
    have hc1 := andT hc.1
    have hc2 := andT hc1.1
    have hc3 := andT hc2.1
    obtain ⟨cl, S, hB⟩ := N.blk x sc hc3.2
    have he : EltOK prog w V F A env fz elt.py (nm x) sc cl (fun d => (evs T n).x false { g with v := d } elt) := fun I oI C' oC D ys m₂ v fz' d y hC hx hs hv hy =>
      (ih _ _ _ _ hy _ A _ fz' _ (C.blk I oI C' oC D ys) (hB I oI C' oC D ys m₂ v fz' d hC hx hs hv).up hc1.2).1 rfl
    have ht : TestOK prog w V F A env fz ct.py (nm x) sc cl (fun d => boolOf ((evs T n).x true { g with v := d } ct)) := fun I oI C' oC D ys m₂ v fz' d b hC hx hs hv hy => by
      obtain ⟨b', e1, e2⟩ := (ih _ _ _ _ (boolOf_is hy) _ A _ fz' _ (C.blk I oI C' oC D ys) (hB I oI C' oC D ys m₂ v fz' d hC hx hs hv).up hc.2).2 rfl
      cases e1
      exact e2
    split at h
    · rename_i dd hx
      split at h
      · rename_i k hk
        split at h
        · rename_i ys hg
          cases h
          exact ev_cmprRT hV C O KK (N.glo _ hc3.1) S (iv hx hc2.2) hk he ht hg
        · cases h
      · cases h
    · cases h
  | tup es q =>
    delta valX at h; dsimp only at h
    split at h
    · rename_i ds hds
      split at h
      · rename_i hsz
        cases h
        exact ev_tup hsz (il hds hc)
      · cases h
    · cases h
  | lst es q =>
    delta valX at h; dsimp only at h
    split at h
    · rename_i ds hds
      split at h
      · rename_i hsz
        cases h
        exact ev_lst hsz (il hds hc)
      · cases h
    · cases h
  | emp q =>
    delta valX at h; dsimp only at h
    cases h
    exact ev_emp C
end
end RegLaw

namespace RegLaw
open PySem PySem.Calls PySem.W PyProof.Rows
section
variable {prog : Program} {w : World} {V : Vl} {F : Fx} {A : Around} {fz fz₀ : List (Addr × Obj)} {env : Env} {d : SD} {K : Frag} {T : Tb} {p : Program} {loose : List Str} {mean : ExcName → Option Value} {mg mb : Str → Option Value} {n : Nat} {g : G} {c : Ck}
theorem eb_inn {e : Expr} {neg : Bool} {bs : List X} {q r : Pos} {ps : List Pc} {l : List Nat} {ds : List SD} {ls : List (List Nat)} {whole : Sem Value} (hsz : szL ds = true)
    (he : EvV prog w V F A (eval e env) fz₀ (.str ps)) (hl : litOf ps = some l) (hb : ∀ pos, EvL prog w V F A (spliced (backTo pos (starEach (pys bs) env))) fz₀ ds) (hls : litsOf ds = some ls) :
    EvB prog w F A (isTrue (.Compare e [if neg then .NotIn else .In] [.Tuple (pys bs) 0 q] r) env whole) fz₀ (if neg then !(ls.any (lbeq l)) else ls.any (lbeq l)) := by
  refine eb_cmp he (ev_tup hsz hb) (fun fz u v hs hu hv => ?_) (by cases neg <;> rfl)
  cases hu with
  | str _ tk =>
    have e1 : txt V ps = ⟨l.toArray⟩ := by unfold txt; rw [litOf_is hl]
    rw [e1]
    cases hv with
    | @tup aa oo vs _ hm kk rr =>
      intro fz₁ s Q hs H k
      have hst := litsOf_strs hls rr
      cases neg
      · refine PyProof.Rows.in_tuple_strs (items := vs.toArray) (H.tup (hs _ hm) kk) (by simpa using hst) ?_
        rw [any_lits]
        exact k _ _ _ (Sub.refl _) H (.bool _)
      · refine PyProof.Rows.notin_tuple_strs (items := vs.toArray) (H.tup (hs _ hm) kk) (by simpa using hst) ?_
        rw [any_lits]
        exact k _ _ _ (Sub.refl _) H (.bool _)

theorem tru_sound (hV : V.Ok) (KK : KOk K w T) (ih : ExprOK prog w V K T p loose mean mg mb n) (co : CallOK prog w V K p loose mean mg mb (evs T n).c n) {e : X} (h : truX T (evs T n).x (evs T n).c g e = some d)
    (C : FOk K p loose mean mg mb F A n) (N : Nm prog w V F A env fz g c) (hc : chk c e = true) : ∃ b, d = .bool b ∧ EvB prog w F A (isTrue e.py env (eval e.py env)) fz b := by
  have iv : ∀ {e d}, (evs T n).x false g e = some d → chk c e = true → EvV prog w V F A (eval e.py env) fz d := fun h k => (ih _ _ _ _ h F A env fz c C N k).1 rfl
  have it : ∀ {e b}, boolOf ((evs T n).x true g e) = some b → chk c e = true → EvB prog w F A (isTrue e.py env (eval e.py env)) fz b := fun h k => by
    obtain ⟨b', e1, e2⟩ := (ih _ _ _ _ (boolOf_is h) F A env fz c C N k).2 rfl
    cases e1
    exact e2
  have il : ∀ {es ds}, evAll ((evs T n).x false g) es = some ds → chks c es = true → ∀ pos, EvL prog w V F A (spliced (backTo pos (starEach (pys es) env))) fz ds := fun h k pos => by
    obtain ⟨h1, h2⟩ := evAll_is h
    exact el_all (fun i e d he hd => iv (h2 i e d he hd) (chks_get k he)) h1
  have plain : ∀ {e : X}, truX T (evs T n).x (evs T n).c g e = (match valX T (evs T n).x (evs T n).c g e with | some (.bool b) => some (.bool b) | _ => none) → truX T (evs T n).x (evs T n).c g e = some d → chk c e = true →
      (isTrue e.py env (eval e.py env) = (do let v ← eval e.py env; standAt e.py.pos; holding [v] (truthy v))) → ∃ b, d = .bool b ∧ EvB prog w F A (isTrue e.py env (eval e.py env)) fz b := by
    intro e h1 h2 h3 h4
    rw [h1] at h2
    split at h2
    · rename_i b hb
      cases h2
      exact ⟨b, rfl, eb_plain (val_sound hV KK ih co hb C N h3) h4⟩
    · cases h2
  cases e with
  | or es q =>
    simp only [truX] at h
    split at h
    · rename_i b hb
      cases h
      exact ⟨b, rfl, any_true hb fun i e b' he hb' => it hb' (chks_get hc he)⟩
    · cases h
  | and es q =>
    simp only [truX] at h
    split at h
    · rename_i b hb
      cases h
      exact ⟨b, rfl, any_false hb fun i e b' he hb' => it hb' (chks_get hc he)⟩
    · cases h
  | not e q =>
    simp only [truX] at h
    split at h
    · rename_i b hb
      cases h
      exact ⟨!b, rfl, fun fz' s Q hs H k => isTrue_not (it hb hc fz' s _ hs H k)⟩
    · cases h
  | ife t a b q => simp [truX] at h
  | lvg e q r => simp [truX] at h
  | cmp o a b q =>
    simp only [truX, valX] at h
    have hc := andT hc
    split at h
    · rename_i b' hb
      split at hb
      · rename_i x hx
        split at hb
        · rename_i y hy
          split at hb
          · rename_i r hr
            cases hb
            cases h
            exact ⟨_, rfl, eb_cmp (iv hx hc.1) (iv hy hc.2) (fun fz' u v hs hu hv => compare_sound hV C.units64 hr hu hv) (py_marks o b)⟩
          · cases hb
        · cases hb
      · cases hb
    · cases h
  | inn neg a bs q r =>
    simp only [truX, valX] at h
    have hc := andT hc
    split at h
    · rename_i b' hb
      split at hb
      · rename_i ps hx
        split at hb
        · rename_i l hl
          split at hb
          · rename_i ds hds
            split at hb
            · rename_i hsz
              split at hb
              · rename_i ls hls
                have z := fun whole => eb_inn (neg := neg) (q := q) (r := r) (whole := whole) hsz (iv hx hc.1) hl (il hds hc.2) hls
                cases neg
                · simp only [Bool.false_eq_true, if_false] at hb z ⊢
                  cases hb
                  cases h
                  exact ⟨_, rfl, z _⟩
                · simp only [if_true] at hb z ⊢
                  cases hb
                  cases h
                  exact ⟨_, rfl, z _⟩
              · cases hb
            · cases hb
          · cases hb
        · cases hb
      · cases hb
    · cases h
  | _ => exact plain rfl h hc (by rw [X.py]; rfl)

theorem ExprOK.zero : ExprOK prog w V K T p loose mean mg mb 0 := fun t g e d h => by simp [evs] at h
theorem FOk.down (C : FOk K p loose mean mg mb F A (n + 1)) : FOk K p loose mean mg mb F A n :=
  ⟨C.below, C.kin, C.top, C.handled, C.guards, by have := C.depth; omega, by have := C.units; omega⟩
theorem ExprOK.succ (hV : V.Ok) (KK : KOk K w T) (ih : ExprOK prog w V K T p loose mean mg mb n) (co : CallOK prog w V K p loose mean mg mb (evs T n).c n) : ExprOK prog w V K T p loose mean mg mb (n + 1) := by
  intro t g e d h F A env fz c C N hc
  simp only [evs, stepX] at h
  cases t with
  | false => exact ⟨fun _ => val_sound hV KK ih co h C.down N hc, fun z => by cases z⟩
  | true => exact ⟨(fun z => by cases z), fun _ => tru_sound hV KK ih co h C.down N hc⟩
end
end RegLaw

namespace RegLaw
open PySem PySem.Calls PySem.W PyProof.Rows

structure Rc where
  h₀ : Heap
  env : Env
  led : List (Addr × Obj)
  s₀ : Shared
noncomputable def Rc.fx (R : Rc) (m : Str → Option Value) (cells ow : List (Addr × Obj)) : Fx := ⟨R.h₀, R.env.locals, m, cells ++ (ow ++ R.led), R.s₀⟩
/- what a frame of the text's own always is -/
structure RcOk (R : Rc) : Prop where
  e : EOk R.env
  cel : ∀ y, R.env.kindOf y = some .cell → (R.env.cells.lookup y).isSome = true

inductive CellR (V : Vl) (fz : List (Addr × Obj)) (env : Env) : List (Nat × Option SD) → List (Addr × Obj) → Prop
  | nil : CellR V fz env [] []
  | cons {x : Nat} {od : Option SD} {c : Addr} {o : Obj} {ov : Option Value} {r : List (Nat × Option SD)} {rs : List (Addr × Obj)} : env.cells.lookup (nm x) = some c → env.kindOf (nm x) = some .cell → o.data = .cell ov →
      (∀ d, od = some d → ∃ v, ov = some v ∧ VIn V fz v d) → CellR V fz env r rs → CellR V fz env ((x, od) :: r) ((c, o) :: rs)
inductive OwnR (V : Vl) (fz : List (Addr × Obj)) (m : Str → Option Value) : List (Nat × List SD) → List (Addr × Obj) → Prop
  | nil : OwnR V fz m [] []
  | cons {x : Nat} {ds : List SD} {a : Addr} {o : Obj} {vs : List Value} {r : List (Nat × List SD)} {rs : List (Addr × Obj)} : x < nmN → m (nm x) = some (.ref a) → SeqObj "list" vs o → VAll V fz vs ds → OwnR V fz m r rs →
      OwnR V fz m ((x, ds) :: r) ((a, o) :: rs)
structure SR (R : Rc) (V : Vl) (g : G) (m : Str → Option Value) (fz cells ow : List (Addr × Obj)) (s : Shared) : Prop where
  hp : Hp (R.fx m cells ow) fz s
  loc : ∀ x d, look g.l x = some d → x < nmN ∧ ∃ v, m (nm x) = some v ∧ VIn V fz v d
  cel : CellR V fz R.env g.c cells
  own : OwnR V fz m g.o ow
theorem CellR.mono {V : Vl} {fz fz' : List (Addr × Obj)} {env : Env} (h : Sub fz fz') : ∀ {a : List (Nat × Option SD)} {b : List (Addr × Obj)}, CellR V fz env a b → CellR V fz' env a b
  | _, _, .nil => .nil
  | _, _, .cons h1 h2 h3 h4 r => .cons h1 h2 h3 (fun d e => let ⟨v, e1, e2⟩ := h4 d e; ⟨v, e1, e2.mono h⟩) (CellR.mono h r)
theorem OwnR.mono {V : Vl} {fz fz' : List (Addr × Obj)} {m : Str → Option Value} (h : Sub fz fz') : ∀ {a : List (Nat × List SD)} {b : List (Addr × Obj)}, OwnR V fz m a b → OwnR V fz' m a b
  | _, _, .nil => .nil
  | _, _, .cons h0 h1 h2 h3 r => .cons h0 h1 h2 (h3.mono h) (OwnR.mono h r)
theorem CellR.look {V : Vl} {fz : List (Addr × Obj)} {env : Env} : ∀ {a : List (Nat × Option SD)} {b : List (Addr × Obj)} {x : Nat} {d : SD}, CellR V fz env a b → RegLaw.look a x = some (some d) →
    ∃ c o v, (c, o) ∈ b ∧ env.cells.lookup (nm x) = some c ∧ env.kindOf (nm x) = some .cell ∧ o.data = .cell (some v) ∧ VIn V fz v d
  | _, _, x, d, .nil, h => by simp [RegLaw.look] at h
  | _, _, x, d, .cons (x := y) (c := c) (o := o) h1 h2 h3 h4 r, h => by
    simp only [RegLaw.look] at h
    split at h
    · rename_i e
      have e := Nat.eq_of_beq_eq_true e
      subst e
      cases h
      obtain ⟨v, e1, e2⟩ := h4 d rfl
      subst e1
      exact ⟨c, o, v, .head _, h1, h2, h3, e2⟩
    · obtain ⟨c', o', v, q1, q2⟩ := CellR.look r h
      exact ⟨c', o', v, .tail _ q1, q2⟩

theorem nm_dbg (x : Nat) : (nm x == ("__debug__" : Str)) = false := by
  have h : ∀ y ∈ nmT, (y == ("__debug__" : Str)) = false := by decide +kernel
  unfold nm
  by_cases hx : x < nmT.length
  · rw [List.getD_eq_getElem?_getD, List.getElem?_eq_getElem hx]
    exact h _ (List.getElem_mem hx)
  · rw [List.getD_eq_getElem?_getD, List.getElem?_eq_none (by omega)]
    decide +kernel
theorem nm_inj {x y : Nat} (hx : x < nmN) (hy : y < nmN) (h : nm x = nm y) : x = y := by
  have : ∀ x < nmN, ∀ y < nmN, nm x = nm y → x = y := by decide +kernel
  exact this x hx y hy h
theorem kindIs_is {sc : Scope} {x : Str} {k : NameKind} (h : kindIs sc x k = true) : sc.names.lookup x = some k := by
  unfold kindIs at h
  exact eq_of_beq h

theorem relabel_free {env : Env} : ∀ {names : List (Str × NameKind)} {x : Str}, names.lookup x = some .free → env.scope.kind = .function → env.kindOf x = some .cell →
    (names.map fun (n, k) => if (k == NameKind.free && env.scope.kind == .function && env.kindOf n == some .cell) then (n, NameKind.cell) else (n, k)).lookup x = some .cell
  | [], _, h, _, _ => by simp at h
  | (n, k) :: r, x, h, hk, hc => by
    have ih := @relabel_free env r x
    show List.lookup x ((if (k == NameKind.free && env.scope.kind == .function && env.kindOf n == some .cell) = true then (n, NameKind.cell) else (n, k)) :: _) = _
    cases hx : x == n with
    | true =>
      simp only [List.lookup_cons, hx] at h
      cases h
      have e := eq_of_beq hx
      subst e
      rw [if_pos (by rw [hk, hc]; rfl)]
      simp [List.lookup_cons]
    | false =>
      simp only [List.lookup_cons, hx] at h
      by_cases hc' : (k == NameKind.free && env.scope.kind == .function && env.kindOf n == some .cell) = true
      · rw [if_pos hc']; simp only [List.lookup_cons, hx]; exact ih h hk hc
      · rw [if_neg hc']; simp only [List.lookup_cons, hx]; exact ih h hk hc
theorem relabel_glo {env : Env} : ∀ {names : List (Str × NameKind)} {x : Str}, names.lookup x = some .globalImplicit →
    (names.map fun (n, k) => if (k == NameKind.free && env.scope.kind == .function && env.kindOf n == some .cell) then (n, NameKind.cell) else (n, k)).lookup x = some .globalImplicit
  | [], _, h => by simp at h
  | (n, k) :: r, x, h => by
    have ih := @relabel_glo env r x
    show List.lookup x ((if (k == NameKind.free && env.scope.kind == .function && env.kindOf n == some .cell) = true then (n, NameKind.cell) else (n, k)) :: _) = _
    cases hx : x == n with
    | true =>
      simp only [List.lookup_cons, hx] at h
      cases h
      simp [List.lookup_cons, hx]
    | false =>
      simp only [List.lookup_cons, hx] at h
      by_cases hc : (k == NameKind.free && env.scope.kind == .function && env.kindOf n == some .cell) = true
      · rw [if_pos hc]; simp only [List.lookup_cons, hx]; exact ih h
      · rw [if_neg hc]; simp only [List.lookup_cons, hx]; exact ih h
theorem closL_some {cells : List (Str × Addr)} : ∀ (names : List (Str × NameKind)) (acc : List (Str × Addr)), (∀ z ∈ names, z.2 = .free → (cells.lookup z.1).isSome = true) → ∃ cl, closL cells names acc = some cl
  | [], acc, _ => ⟨acc, rfl⟩
  | (n, k) :: r, acc, h => by
    simp only [closL]
    cases hk : (k == NameKind.free) with
    | true =>
      simp only [if_true]
      have := h (n, k) (.head _) (eq_of_beq hk)
      cases hc : cells.lookup n with
      | none => rw [hc] at this; cases this
      | some a => exact closL_some r _ fun z hz => h z (.tail _ hz)
    | false =>
      simp only [Bool.false_eq_true, if_false]
      exact closL_some r _ fun z hz => h z (.tail _ hz)
theorem lookup_mem {α : Type} {l : List (Str × α)} {x : Str} {a : α} (h : l.lookup x = some a) : (x, a) ∈ l := mem_of_lookup h

section
variable {prog : Program} {w : World} {V : Vl} {R : Rc} {A : Around} {fz cells ow : List (Addr × Obj)} {m : Str → Option Value} {s : Shared} {g : G}
theorem SR.nm (H : SR R V g m fz cells ow s) (O : RcOk R) : Nm prog w V (R.fx m cells ow) A R.env fz g ⟨R.env.scope, none⟩ := by
  refine { var := ?_, glo := ?_, e := O.e, blk := ?_ }
  · intro e d hc hv
    cases e with
    | loc x q =>
      simp only [Ck.var, Option.isNone_none, Bool.true_and] at hc
      obtain ⟨_, v, hm, hvd⟩ := H.loc x d hv
      exact fun fz' s' Q hs H' k => wpAny_Name (wpAny_loadName_local O.e.k (kindIs_is hc) H'.fr.ns hm (k _ _ _ (Sub.refl _) H' (hvd.mono hs))) (nm_dbg x)
    | cel x q =>
      simp only [Ck.var, Option.isNone_none, Bool.true_and] at hc
      simp only [valVar] at hv
      split at hv
      · rename_i d' hd
        cases hv
        obtain ⟨c, o, v, h1, h2, h3, h4, h5⟩ := H.cel.look hd
        exact fun fz' s' Q hs H' k => wpAny_Name (wpAny_loadName_cell O.e.k (kindIs_is hc) h2 ⟨o, H'.nw.get (List.mem_append_right _ (List.mem_append_left _ h1)), h4⟩ (k _ _ _ (Sub.refl _) H' (h5.mono hs))) (nm_dbg x)
      · cases hv
    | fre x q => simp [Ck.var] at hc
    | cvr x q => simp [Ck.var] at hc
    | _ => simp [Ck.var] at hc
  · intro x hc
    simp only [Ck.glo] at hc
    exact kindIs_is hc
  · intro x sc hc
    simp only [Ck.blk, Option.isNone_none, Bool.true_and, Bool.and_eq_true, List.all_eq_true] at hc
    obtain ⟨⟨hk, hx⟩, hall⟩ := hc
    have hk := eq_of_beq hk
    have hx := kindIs_is hx
    have hall' : ∀ z ∈ sc.names, z.2 ≠ .cell ∧ (z.2 = .local → sc.names.lookup z.1 = some .local) ∧ (z.2 = .free → R.env.kindOf z.1 = some .cell) := by
      intro z hz
      have := hall z hz
      simp only [Bool.or_eq_true, bne_iff_ne, ne_eq] at this
      obtain ⟨⟨h1, h2⟩, h3⟩ := this
      refine ⟨h1, fun e => ?_, fun e => ?_⟩
      · rcases h2 with h2 | h2
        · exact absurd e h2
        · exact kindIs_is h2
      · rcases h3 with h3 | h3
        · exact absurd e h3
        · exact kindIs_is h3
    obtain ⟨cl, hcl⟩ := closL_some (cells := R.env.cells) sc.names [] fun z hz e => O.cel _ ((hall' z hz).2.2 e)
    obtain ⟨hl1, hl2⟩ := closL_lookup sc.names [] cl hcl fun x a h => by simp at h
    refine ⟨cl, ⟨hcl, fun y hy => (hall' y hy).1, hk, fun y hy => (hall' y hy).2.1, hx⟩, ?_⟩
    intro I oI C oC D ys m₂ v fz' d hC hm₂ hs hv
    have hbk : (compEnvC sc cl C R.env).scope.kind = .function := hk
    refine { var := ?_, glo := ?_, e := ⟨O.e.g, O.e.b, hbk⟩ }
    · intro e d' hc hv'
      cases e with
      | loc x q => simp [Ck.var] at hc
      | cel x q => simp [Ck.var] at hc
      | fre y q =>
        simp only [Ck.var, Bool.and_eq_true] at hc
        have h1 := kindIs_is hc.1
        have h2 : R.env.kindOf (RegLaw.nm y) = some .cell := kindIs_is hc.2
        simp only [valVar] at hv'
        split at hv'
        · rename_i d'' hd
          cases hv'
          obtain ⟨c, o, v', q1, q2, q3, q4, q5⟩ := H.cel.look hd
          have hcl' : cl.lookup (RegLaw.nm y) = some c := by
            have := hl2 (RegLaw.nm y) (.inr (lookup_mem h1))
            cases e : cl.lookup (RegLaw.nm y) with
            | none => rw [e] at this; cases this
            | some a =>
              have := hl1 _ _ e
              rw [q2] at this
              exact this.symm
          exact fun fz'' s' Q hs' H' k => wpAny_Name (wpAny_loadName_cell hbk (relabel_free h1 O.e.k h2) hcl'
            ⟨o, H'.nw.get (List.mem_append_right _ (.tail _ (.tail _ (.tail _ (List.mem_append_left _ q1))))), q4⟩ (k _ _ _ (Sub.refl _) H' (q5.mono (hs.trans hs')))) (nm_dbg y)
        · cases hv'
      | cvr y q =>
        simp only [Ck.var, Bool.and_eq_true] at hc
        have e := Nat.eq_of_beq_eq_true hc.1
        subst e
        cases hv'
        exact fun fz'' s' Q hs' H' k => wpAny_Name (wpAny_loadName_local hbk (lookup_relabel_local (kindIs_is hc.2)) (hC.ns (H'.nw.get (List.mem_append_right _ (.tail _ (.head _))))) hm₂
          (k _ _ _ (Sub.refl _) H' (hv.mono hs'))) (nm_dbg _)
      | _ => simp [Ck.var] at hc
    · intro y hc
      simp only [Ck.glo] at hc
      exact relabel_glo (kindIs_is hc)
end
end RegLaw

namespace RegLaw
open PySem PySem.Calls PySem.W PyProof.Rows

theorem inplace_list {prog : Program} {w : World} {A : Around} {E : Value → Shared → Prop} {s : Shared} {a b : Addr} {vs us : List Value} {n n2 : Nat} {Q : Value → Shared → Prop}
    (ha : s.heap.get? a = some { cls := .type "list", data := .seq vs.toArray n }) (hb : s.heap.get? b = some { cls := .type "list", data := .seq us.toArray n2 }) (hsz : vs.length + us.length ≤ sizeLine)
    (h : ∀ h' n', Heap.SameBut a s.heap h' → h'.get? a = some { cls := .type "list", data := .seq (vs ++ us).toArray n' } → Q (.ref a) { s with heap := h' }) :
    wpAny (model prog w) A (inplaceOp .Add (.ref a) (.ref b)) Q E s := by
  have hl : typeLookup (.type "list") (dunderI "add") = pure (some (.builtin "list.__iadd__")) := PySem.F.slot_list_iadd.lookup
  have hsq : isSeqSlot (some (.builtin "list.__iadd__")) = true := by decide +kernel
  unfold inplaceOp
  refine wpAny_holding ?_
  have hfi : fillsInplaceSlot (.type "list") "add" (Operator.Add == .Add) = pure false := by
    unfold fillsInplaceSlot
    show (typeLookup (.type "list") (dunderI "add") >>= fun fi => pure (fi.isSome && !isSeqSlot fi)) = pure false
    rw [hl, pure_bind, hsq]; rfl
  refine wpAny_bind (wpAny_typeOf (T := "list") ⟨_, ha, rfl⟩ (wpAny_bind (wpAny_of_eq hfi ?_)))
  show wpAny _ A (if false = true then _ else _) Q E s
  rw [if_neg Bool.false_ne_true]
  refine wpAny_bind (wpAny_binaryOp1_none (nm := "add") (T := "list") ⟨_, ha, rfl⟩ ⟨_, hb, rfl⟩ noFill_list_add ?_)
  refine wpAny_bind (wpAny_of_eq (PySem.seqSlot_of hl hsq) ?_)
  refine wpAny_bind (wpAny_rule ?_)
  refine call_meets PySem.F.slot_list_iadd ⟨_, ha, rfl⟩ PySem.F.entry_list_iadd (PySem.F.args_list_iadd_2 _ _)
    (AutoSeq1.list___iadd___list_list_0 a vs.toArray n b us.toArray n2 ?_ (by simp; omega) (by simp; omega)) ⟨ha, hb, ?_⟩
  · have : Builtin.List.listTooLong (vs.toArray.size + us.toArray.size) = false := by
      unfold Builtin.List.listTooLong
      have := sizeLine_ge
      simp
      omega
    rw [this]; simp
  · refine h _ (if (vs ++ us).toArray.size == vs.toArray.size then n else n + 1) (Heap.SameBut.update ..) ?_
    rw [Heap.get?_update_self _ ha rfl]
    simp [Obj.mapSeq]
end RegLaw

namespace RegLaw
open PySem PySem.Calls PySem.W PyProof.Rows

theorem look_put {α : Type} {x : Nat} {d : α} : ∀ {l : List (Nat × α)} {y : Nat}, look (put x d l) y = if y = x then some d else look l y
  | [], y => by
    simp only [put, look]
    by_cases h : y = x
    · subst h; simp
    · rw [if_neg h]
      have : Nat.beq x y = false := by
        cases e : Nat.beq x y with
        | false => rfl
        | true => exact absurd (Nat.eq_of_beq_eq_true e).symm h
      rw [this]
  | p :: r, y => by
    simp only [put]
    split
    · rename_i e
      have e := Nat.eq_of_beq_eq_true e
      simp only [look]
      by_cases h : y = x
      · subst h; simp
      · have : Nat.beq x y = false := by
          cases e' : Nat.beq x y with
          | false => rfl
          | true => exact absurd (Nat.eq_of_beq_eq_true e').symm h
        rw [this, if_neg h, e, this]
    · rename_i e
      simp only [look]
      by_cases h : y = x
      · subst h; rw [e]; simp only [if_true]; have := look_put (x := y) (d := d) (l := r) (y := y); rw [if_pos rfl] at this; exact this
      · rw [if_neg h]
        have := look_put (x := x) (d := d) (l := r) (y := y)
        rw [if_neg h] at this
        rw [this]

noncomputable def setM (m : Str → Option Value) (x : Nat) (v : Value) : Str → Option Value := fun y => if y = nm x then some v else m y
theorem setM_ne {m : Str → Option Value} {x y : Nat} {v : Value} (hx : x < nmN) (hy : y < nmN) (h : y ≠ x) : setM m x v (nm y) = m (nm y) := by
  unfold setM
  rw [if_neg fun e => h (nm_inj hy hx e)]
theorem setM_eq {m : Str → Option Value} {x : Nat} {v : Value} : setM m x v (nm x) = some v := by
  unfold setM
  rw [if_pos rfl]
noncomputable def Kept (m₀ m : Str → Option Value) : Prop := ∀ y, (∀ x, x < nmN → nm x ≠ y) → m y = m₀ y
theorem Kept.refl (m : Str → Option Value) : Kept m m := fun _ _ => rfl
theorem Kept.trans {a b c : Str → Option Value} (h : Kept a b) (k : Kept b c) : Kept a c := fun y hy => (k y hy).trans (h y hy)
theorem Kept.set {m : Str → Option Value} {x : Nat} {v : Value} (hx : x < nmN) : Kept m (setM m x v) := fun y hy => by
  unfold setM
  rw [if_neg fun e => hy x hx e.symm]

theorem OwnR.set {V : Vl} {fz : List (Addr × Obj)} {m : Str → Option Value} {x : Nat} {v : Value} (hx : x < nmN) : ∀ {a : List (Nat × List SD)} {b : List (Addr × Obj)}, OwnR V fz m a b → look a x = none → OwnR V fz (setM m x v) a b
  | _, _, .nil, _ => .nil
  | _, _, .cons (x := y) h0 h1 h2 h3 r, h => by
    simp only [look] at h
    split at h
    · cases h
    · rename_i e
      have hne : y ≠ x := fun q => by subst q; simp at e
      exact .cons h0 (by rw [setM_ne hx h0 hne]; exact h1) h2 h3 (OwnR.set hx r h)
theorem CellR.put {V : Vl} {fz : List (Addr × Obj)} {env : Env} {x : Nat} {d : SD} {v : Value} (hv : VIn V fz v d) : ∀ {a : List (Nat × Option SD)} {b : List (Addr × Obj)} {a' : List (Nat × Option SD)}, CellR V fz env a b → putO x (fun _ => true) (fun _ => some d) a = some a' →
    ∃ c o ov b1 b2, b = b1 ++ (c, o) :: b2 ∧ env.cells.lookup (nm x) = some c ∧ env.kindOf (nm x) = some .cell ∧ o.data = .cell ov ∧ ∀ o' : Obj, o'.data = .cell (some v) → CellR V fz env a' (b1 ++ (c, o') :: b2)
  | _, _, _, .nil, h => by simp [putO] at h
  | _, _, a', .cons (x := y) (c := c) (o := o) (ov := ov) (r := r) (rs := rs) h1 h2 h3 h4 hr, h => by
    simp only [putO] at h
    split at h
    · rename_i e
      have e := Nat.eq_of_beq_eq_true e
      subst e
      cases h
      exact ⟨c, o, ov, [], rs, rfl, h1, h2, h3, fun o' ho' => .cons h1 h2 ho' (fun d' e => by cases e; exact ⟨v, rfl, hv⟩) hr⟩
    · split at h
      · rename_i r' hr'
        cases h
        obtain ⟨c', o', ov', b1, b2, e1, e2, e3, e4, e5⟩ := CellR.put hv hr hr'
        exact ⟨c', o', ov', (c, o) :: b1, b2, by rw [e1]; rfl, e2, e3, e4, fun o'' ho'' => .cons h1 h2 h3 h4 (e5 o'' ho'')⟩
      · cases h
theorem OwnR.put {V : Vl} {fz : List (Addr × Obj)} {m : Str → Option Value} {x : Nat} {ok : List SD → Bool} {f : List SD → List SD} : ∀ {a : List (Nat × List SD)} {b : List (Addr × Obj)} {a' : List (Nat × List SD)}, OwnR V fz m a b → putO x ok f a = some a' →
    ∃ c o vs ds b1 b2, b = b1 ++ (c, o) :: b2 ∧ m (nm x) = some (.ref c) ∧ SeqObj "list" vs o ∧ VAll V fz vs ds ∧ ok ds = true ∧ ∀ (vs' : List Value) (o' : Obj), SeqObj "list" vs' o' → VAll V fz vs' (f ds) → OwnR V fz m a' (b1 ++ (c, o') :: b2)
  | _, _, _, .nil, h => by simp [putO] at h
  | _, _, a', .cons (x := y) (ds := ds) (a := c) (o := o) (vs := vs) (r := r) (rs := rs) h0 h1 h2 h3 hr, h => by
    simp only [putO] at h
    split at h
    · rename_i e
      have e := Nat.eq_of_beq_eq_true e
      subst e
      split at h
      · rename_i hok
        cases h
        exact ⟨c, o, vs, ds, [], rs, rfl, h1, h2, h3, hok, fun vs' o' q1 q2 => .cons h0 h1 q1 q2 hr⟩
      · cases h
    · split at h
      · rename_i r' hr'
        cases h
        obtain ⟨c', o', vs', ds', b1, b2, e1, e2, e3, e4, e5, e6⟩ := OwnR.put hr hr'
        exact ⟨c', o', vs', ds', (c, o) :: b1, b2, by rw [e1]; rfl, e2, e3, e4, e5, fun vs'' o'' q1 q2 => .cons h0 h1 h2 h3 (e6 vs'' o'' q1 q2)⟩
      · cases h

/- the ledger in another order -/
theorem Hp.perm {F F' : Fx} {fz fz' : List (Addr × Obj)} {s : Shared} (H : Hp F fz s) (h1 : F'.h₀ = F.h₀) (h2 : F'.L = F.L) (h3 : F'.m = F.m) (h4 : F'.s₀ = F.s₀) (hp : (fz' ++ F'.keep).Perm (fz ++ F.keep)) : Hp F' fz' s :=
  ⟨by rw [h1, h2, h3]; exact H.fr, by rw [h1, h2]; exact fun p q => H.nw p (hp.mem_iff.mp q), (hp.map _).nodup_iff.mpr H.nd, by rw [h4]; exact H.sh⟩
/- one object of the ledger changed -/
theorem Hp.upd {F : Fx} {fz k1 k2 : List (Addr × Obj)} {s : Shared} {h' : Heap} {a : Addr} {o o' : Obj} {t : Nat} (H : Hp { F with keep := k1 ++ (a, o) :: k2 } fz s) (hs : Heap.SameBut a s.heap h') (ho : h'.get? a = some o') :
    Hp { F with keep := k1 ++ (a, o') :: k2 } fz { s with heap := h', toks := t } := by
  have nd := H.nd
  have hN := H.nw
  simp only at nd hN
  rw [← List.append_assoc] at nd hN
  have hsplit : ∀ p ∈ (fz ++ k1) ++ k2, p.1 ≠ a := by
    rw [List.map_append, List.map_cons] at nd
    obtain ⟨_, nd2, nd3⟩ := List.nodup_append.mp nd
    obtain ⟨nd4, _⟩ := List.nodup_cons.mp nd2
    intro p hp
    rcases List.mem_append.mp hp with hp | hp
    · exact nd3 p.1 (List.mem_map_of_mem hp) a (.head _)
    · intro e
      have q := List.mem_map_of_mem (f := fun q : Addr × Obj => q.1) hp
      rw [e] at q
      exact nd4 q
  have hm := hN (a, o) (List.mem_append_right _ (.head _))
  obtain ⟨hh, tk, es⟩ := H.sh
  refine ⟨H.fr.change hs hm.2.1 hm.2.2, ?_, ?_, h', t, by rw [es]⟩
  · show News F.h₀ F.L h' (fz ++ (k1 ++ (a, o') :: k2))
    rw [← List.append_assoc]
    exact hN.setAt (fun p hp => hsplit p (List.mem_append_left _ hp)) (fun p hp => hsplit p (List.mem_append_right _ hp)) hs ho
  · show ((fz ++ (k1 ++ (a, o') :: k2)).map (·.1)).Nodup
    rw [← List.append_assoc]
    rw [List.map_append, List.map_cons] at nd ⊢
    exact nd

section
variable {prog : Program} {w : World} {V : Vl} {R : Rc} {A : Around} {fz cells ow : List (Addr × Obj)} {m : Str → Option Value} {s : Shared} {g : G}
theorem SR.up (H : SR R V g m fz cells ow s) {fz' : List (Addr × Obj)} {s' : Shared} (hs : Sub fz fz') (H' : Hp (R.fx m cells ow) fz' s') : SR R V g m fz' cells ow s' :=
  ⟨H', fun x d h => let ⟨a, v, b, c⟩ := H.loc x d h; ⟨a, v, b, c.mono hs⟩, H.cel.mono hs, H.own.mono hs⟩
theorem setL_is {g g' : G} {x : Nat} {d : SD} (h : g.setL x d = some g') : look g.o x = none ∧ x < nmN ∧ g' = { g with l := put x d g.l } := by
  unfold G.setL at h
  split at h
  · rename_i h1 h2
    cases h
    exact ⟨h1, by simpa [Nat.blt_eq] using h2, rfl⟩
  · cases h
theorem SR.set (H : SR R V g m fz cells ow s) {x : Nat} {d : SD} {v : Value} {g' : G} {s' : Shared} (hg : g.setL x d = some g') (hv : VIn V fz v d) (H' : Hp (R.fx (setM m x v) cells ow) fz s') : SR R V g' (setM m x v) fz cells ow s' := by
  obtain ⟨h1, h2, rfl⟩ := setL_is hg
  refine ⟨H', fun y d' hy => ?_, H.cel, H.own.set h2 h1⟩
  simp only at hy
  rw [look_put] at hy
  split at hy
  · rename_i e
    cases hy
    subst e
    exact ⟨h2, v, setM_eq, hv⟩
  · rename_i e
    obtain ⟨a, u, b, c⟩ := H.loc y d' hy
    exact ⟨a, u, by rw [setM_ne h2 a e]; exact b, c⟩
theorem Hp.setM {x : Nat} {v : Value} {h' : Heap} {t : Nat} (H : Hp (R.fx m cells ow) fz s) (hn : h'.Ns R.env.locals (setM m x v)) (hs : Heap.SameBut R.env.locals s.heap h') : Hp (R.fx (RegLaw.setM m x v) cells ow) fz { s with heap := h', toks := t } := by
  obtain ⟨hh, tk, es⟩ := H.sh
  exact ⟨H.fr.set hn hs, H.nw.set hs, H.nd, h', t, by rw [es]; rfl⟩

theorem st_local {x : Nat} {d : SD} {v : Value} {g' : G} {Q : Unit → Shared → Prop} (O : RcOk R) (H : SR R V g m fz cells ow s) (hx : R.env.kindOf (nm x) = some .local) (hg : g.setL x d = some g') (hv : VIn V fz v d)
    (k : ∀ s', SR R V g' (setM m x v) fz cells ow s' → Q () s') : wpAny (model prog w) A (storeName R.env (nm x) v) Q No s :=
  wpAny_storeName_local hx H.hp.fr.ns (fun h' hn hs => k _ (H.set hg hv (H.hp.setM hn hs))) (by rw [O.e.k]; rfl)
theorem st_cell {x : Nat} {d : SD} {v : Value} {c' : List (Nat × Option SD)} {Q : Unit → Shared → Prop} (O : RcOk R) (H : SR R V g m fz cells ow s) (hg : putO x (fun _ => true) (fun _ => some d) g.c = some c') (hv : VIn V fz v d)
    (k : ∀ s' cells', SR R V { g with c := c' } m fz cells' ow s' → Q () s') : wpAny (model prog w) A (storeName R.env (nm x) v) Q No s := by
  obtain ⟨c, o, ov, b1, b2, rfl, e1, e2, e3, e4⟩ := H.cel.put hv hg
  have hm := H.hp.nw.get (List.mem_append_right fz (List.mem_append_left (ow ++ R.led) (List.mem_append_right b1 (List.mem_cons_self (a := (c, o)) (l := b2)))))
  refine wpAny_storeName_cell O.e.k e2 e1 ⟨o, hm, e3⟩ fun h' hc hs => ?_
  obtain ⟨o', ho', hd'⟩ := hc
  refine k _ (b1 ++ (c, o') :: b2) ⟨?_, H.loc, e4 o' hd', H.own⟩
  have H₁ : Hp { R.fx m [] ow with keep := b1 ++ (c, o) :: (b2 ++ (ow ++ R.led)) } fz s := H.hp.perm rfl rfl rfl rfl (by simp [Rc.fx])
  exact (H₁.upd (t := s.toks) hs ho').perm rfl rfl rfl rfl (by simp [Rc.fx])
end
end RegLaw

namespace RegLaw
open PySem PySem.Calls PySem.W PyProof.Rows

noncomputable def X.isComp : X → Bool
  | .cmpr .. | .cmprR .. | .cmprT .. => true
  | _ => false
noncomputable def X.isCall : X → Bool
  | .call .. => true
  | _ => false
mutual
noncomputable def chkS (sc : Scope) : S → Bool
  | .asL x e _ _ => kindIs sc (nm x) .local && !e.isComp && chk ⟨sc, none⟩ e
  | .asK x elt y _ src s p q _ => kindIs sc (nm x) .local && Nat.beq p.line q.line && !(s.names.any fun z => z.1 == nm x && (z.2 == .local || z.2 == .cell)) && Ck.blk ⟨sc, none⟩ y s && chk ⟨sc, none⟩ src && chk ⟨sc, some (y, s)⟩ elt
  | .asC x e _ _ => kindIs sc (nm x) .cell && chk ⟨sc, none⟩ e
  | .own x es _ _ _ => kindIs sc (nm x) .local && chks ⟨sc, none⟩ es
  | .asT xs e _ _ => (xs.all fun z => kindIs sc (nm z.1) .local) && e.isCall && chk ⟨sc, none⟩ e
  | .augO x e _ _ => kindIs sc (nm x) .local && chk ⟨sc, none⟩ e
  | .augL x e _ _ => kindIs sc (nm x) .local && chk ⟨sc, none⟩ e
  | .augC x e _ _ => kindIs sc (nm x) .cell && chk ⟨sc, none⟩ e
  | .app x e _ r q _ => kindIs sc (nm x) .local && (r.endLine == q.line) && chk ⟨sc, none⟩ e
  | .ife t a b _ => chk ⟨sc, none⟩ t && chkSs sc a && chkSs sc b
  | .forR x hi body _ _ _ _ => kindIs sc (nm x) .local && Ck.glo ⟨sc, none⟩ "range" && chk ⟨sc, none⟩ hi && chkSs sc body
  | .ret e _ => chk ⟨sc, none⟩ e
noncomputable def chkSs (sc : Scope) : List S → Bool
  | [] => true
  | s :: r => chkS sc s && chkSs sc r
end

noncomputable def Post (R : Rc) (V : Vl) (fz₀ : List (Addr × Obj)) (m₀ : Str → Option Value) (g' : G) (Q : Flow → Shared → Prop) : Fl → Prop
  | .nx => ∀ m fz cells ow s, Sub fz₀ fz → Kept m₀ m → SR R V g' m fz cells ow s → Q .next s
  | .rt d => ∀ v m fz cells s, Sub fz₀ fz → Hp (R.fx m cells []) fz s → VIn V fz v d → Q (.ret v) s
theorem Post.up {R : Rc} {V : Vl} {fz₀ fz₁ : List (Addr × Obj)} {m₀ m₁ : Str → Option Value} {g' : G} {Q : Flow → Shared → Prop} (hs : Sub fz₀ fz₁) (hk : Kept m₀ m₁) : ∀ {fl : Fl}, Post R V fz₀ m₀ g' Q fl → Post R V fz₁ m₁ g' Q fl
  | .nx, h => fun m fz cells ow s h1 h2 h3 => h m fz cells ow s (hs.trans h1) (hk.trans h2) h3
  | .rt d, h => fun v m fz cells s h1 h2 h3 => h v m fz cells s (hs.trans h1) h2 h3
noncomputable def StmtOK (prog : Program) (w : World) (V : Vl) (K : Frag) (T : Tb) (p : Program) (loose : List Str) (mean : ExcName → Option Value) (mg mb : Str → Option Value) (n : Nat) : Prop :=
  ∀ g ss fl g', (evs T n).s g ss = some (fl, g') → ∀ R A m fz cells ow s Q, FOk K p loose mean mg mb (R.fx m cells ow) A n → RcOk R → chkSs R.env.scope ss = true → SR R V g m fz cells ow s →
    Post R V fz m g' Q fl → wpAny (model prog w) A (execs (spys ss) R.env) Q No s

theorem swaps_plain {e : X} (h : e.isComp = false) (t : Option Expr) (line : Nat) (env : Env) : swapsWith e.py t line env = pure false := by
  cases e <;> first | (cases h; done) | (simp only [X.py]; rfl)
theorem swaps_cell {e : X} {x : Str} {q : Pos} {env : Env} (hk : env.kindOf x = some .cell) (line : Nat) : swapsWith e.py (some (.Name x q)) line env = pure false := by
  cases e <;> simp only [X.py] <;> first | rfl | (simp [swapsWith, hk, show (NameKind.cell == NameKind.local) = false by decide])
theorem swaps_comp {elt src : Expr} {x y : Str} {py p q : Pos} {sc : Scope} {env : Env} (hk : env.kindOf x = some .local) (hf : env.scope.kind = .function) (hl : Nat.beq p.line q.line = true)
    (hn : (sc.names.any fun z => z.1 == x && (z.2 == .local || z.2 == .cell)) = false) (line : Nat) : swapsWith (.ListComp elt [⟨.Name y py, src, [], 0⟩] sc q) (some (.Name x p)) line env = pure true := by
  have h1 : env.blockKind = .function := by unfold Env.blockKind; rw [hf]; rfl
  have h2 := Nat.eq_of_beq_eq_true hl
  have h3 : (sc.names.any fun (n, k) => n == x && (k == .local || k == .cell)) = false := hn
  simp only [swapsWith, h1, hk, Expr.pos, h2, h3]
  simp

section
variable {prog : Program} {w : World} {V : Vl} {R : Rc} {A : Around} {fz cells ow : List (Addr × Obj)} {m : Str → Option Value} {s : Shared} {g g' : G} {K : Frag} {T : Tb} {p : Program} {loose : List Str} {mean : ExcName → Option Value} {mg mb : Str → Option Value} {n : Nat} {Q : Flow → Shared → Prop} {fl : Fl}
theorem FOk.any {F F' : Fx} (C : FOk K p loose mean mg mb F A n) (h : F'.h₀ = F.h₀) (h2 : F'.L = F.L) : FOk K p loose mean mg mb F' A n :=
  ⟨by rw [h, h2]; exact C.below, by rw [h]; exact C.kin, by rw [h]; exact C.top, C.handled, C.guards, C.depth, C.units⟩

/- an expression in a frame of the text's own -/
theorem ex_v {e : X} {d : SD} {E : ExprOK prog w V K T p loose mean mg mb n} (C : FOk K p loose mean mg mb (R.fx m cells ow) A n) (O : RcOk R) (h : (evs T n).x false g e = some d) (hc : chk ⟨R.env.scope, none⟩ e = true) (H : SR R V g m fz cells ow s) :
    EvV prog w V (R.fx m cells ow) A (eval e.py R.env) fz d := (E _ _ _ _ h _ _ _ _ _ C (H.nm O) hc).1 rfl
theorem ex_b {e : X} {b : Bool} {E : ExprOK prog w V K T p loose mean mg mb n} (C : FOk K p loose mean mg mb (R.fx m cells ow) A n) (O : RcOk R) (h : boolOf ((evs T n).x true g e) = some b) (hc : chk ⟨R.env.scope, none⟩ e = true) (H : SR R V g m fz cells ow s) :
    EvB prog w (R.fx m cells ow) A (isTrue e.py R.env (eval e.py R.env)) fz b := by
  obtain ⟨b', e1, e2⟩ := (E _ _ _ _ (boolOf_is h) _ _ _ _ _ C (H.nm O) hc).2 rfl
  cases e1
  exact e2
theorem ex_l {es : List X} {ds : List SD} {E : ExprOK prog w V K T p loose mean mg mb n} (C : FOk K p loose mean mg mb (R.fx m cells ow) A n) (O : RcOk R) (h : evAll ((evs T n).x false g) es = some ds) (hc : chks ⟨R.env.scope, none⟩ es = true) (H : SR R V g m fz cells ow s) (pos : Pos) :
    EvL prog w V (R.fx m cells ow) A (spliced (backTo pos (starEach (pys es) R.env))) fz ds := by
  obtain ⟨h1, h2⟩ := evAll_is h
  exact el_all (fun i e d he hd => ex_v (E := E) C O (h2 i e d he hd) (chks_get hc he) H) h1

theorem s_asL {x : Nat} {e : X} {q r : Pos} {d : SD} (E : ExprOK prog w V K T p loose mean mg mb n) (C : FOk K p loose mean mg mb (R.fx m cells ow) A n) (O : RcOk R) (H : SR R V g m fz cells ow s) (hc : chkS R.env.scope (.asL x e q r) = true)
    (h : (evs T n).x false g e = some d) (hg : g.setL x d = some g') (P : Post R V fz m g' Q .nx) : wpAny (model prog w) A (exec (S.asL x e q r).py R.env) Q No s := by
  have hc := andT hc
  have hc1 := andT hc.1
  refine wpAny_Assign_Name (hs := swaps_plain (by simpa using hc1.2) _ _ _) ?_
  refine ex_v (E := E) C O h hc.2 H fz s _ (Sub.refl _) H.hp fun v s₁ fz₁ h1 H₁ hv => ?_
  refine st_local O (H.up h1 H₁) (kindIs_is hc1.1) hg hv fun s' H' => ?_
  exact P _ _ _ _ _ h1 (.set (setL_is hg).2.1) H'
theorem s_asC {x : Nat} {e : X} {q r : Pos} {d : SD} {c' : List (Nat × Option SD)} (E : ExprOK prog w V K T p loose mean mg mb n) (C : FOk K p loose mean mg mb (R.fx m cells ow) A n) (O : RcOk R) (H : SR R V g m fz cells ow s) (hc : chkS R.env.scope (.asC x e q r) = true)
    (h : (evs T n).x false g e = some d) (hg : putO x (fun _ => true) (fun _ => some d) g.c = some c') (P : Post R V fz m { g with c := c' } Q .nx) : wpAny (model prog w) A (exec (S.asC x e q r).py R.env) Q No s := by
  have hc := andT hc
  refine wpAny_Assign_Name (hs := swaps_cell (kindIs_is hc.1) _) ?_
  refine ex_v (E := E) C O h hc.2 H fz s _ (Sub.refl _) H.hp fun v s₁ fz₁ h1 H₁ hv => ?_
  refine st_cell O (H.up h1 H₁) hg hv fun s' cells' H' => ?_
  exact P _ _ _ _ _ h1 (.refl _) H'
theorem s_own {x : Nat} {es : List X} {q r t : Pos} {ds : List SD} (E : ExprOK prog w V K T p loose mean mg mb n) (C : FOk K p loose mean mg mb (R.fx m cells ow) A n) (O : RcOk R) (H : SR R V g m fz cells ow s) (hc : chkS R.env.scope (.own x es q r t) = true)
    (h : evAll ((evs T n).x false g) es = some ds) (hl : look g.l x = none) (ho : look g.o x = none) (hx : x < nmN) (hsz : szL ds = true) (P : Post R V fz m { g with o := (x, ds) :: g.o } Q .nx) : wpAny (model prog w) A (exec (S.own x es q r t).py R.env) Q No s := by
  have hc := andT hc
  have hsz := szL_is hsz
  refine wpAny_Assign_Name (hs := rfl) ?_
  refine List_ ?_
  refine ex_l (E := E) C O h hc.2 H r fz s _ (Sub.refl _) H.hp fun vs s₁ fz₁ h1 H₁ hvs => ?_
  have z := hvs.length
  refine newList_N H₁.fr H₁.nw (fun h' F' N' => ?_) (by have := sizeLine_ge; omega)
  have H₂ := H₁.new (k := 0) F' N'
  refine wpAny_storeName_local (kindIs_is hc.1) F'.ns (fun h'' hn hs => ?_) (by rw [O.e.k]; rfl)
  have H₃ := Hp.setM (t := s₁.toks + 1) H₂ hn hs
  have H₄ := H.up h1 H₁
  refine P _ _ cells ((s₁.heap.objs.size + 0, { cls := .type "list", data := .seq vs.toArray }) :: ow) _ h1 (.set hx) ⟨H₃.perm rfl rfl rfl rfl ?_, fun y d hy => ?_, H₄.cel, .cons hx setM_eq ⟨0, rfl⟩ hvs (H₄.own.set hx ho)⟩
  · simp only [Rc.fx, List.cons_append]
    exact (List.perm_middle.append_left fz₁).trans List.perm_middle
  · have hne : y ≠ x := fun e => by subst e; simp only at hy; rw [hl] at hy; cases hy
    obtain ⟨a, u, b, c⟩ := H₄.loc y d hy
    exact ⟨a, u, by rw [setM_ne hx a hne]; exact b, c⟩
end
end RegLaw

namespace RegLaw
open PySem PySem.Calls PySem.W PyProof.Rows

theorem each_names {env : Env} : ∀ xs : List (Nat × Pos), assignEach (xs.map fun z => Expr.Name (nm z.1) z.2) env = xs.map fun z => (false, assign (.Name (nm z.1) z.2) env)
  | [] => by simp [assignEach]
  | z :: r => by
    rw [List.map_cons, List.map_cons, ← each_names r]
    simp only [assignEach]

section
variable {prog : Program} {w : World} {V : Vl} {R : Rc} {A : Around} {fz cells ow : List (Addr × Obj)} {m : Str → Option Value} {s : Shared} {g g' : G} {K : Frag} {T : Tb} {p : Program} {loose : List Str} {mean : ExcName → Option Value} {mg mb : Str → Option Value} {n : Nat} {Q : Flow → Shared → Prop} {fl : Fl}
theorem SR.set' (H : SR R V g m fz cells ow s) {x : Nat} {d : SD} {v : Value} {g' : G} {s' : Shared} {fz' : List (Addr × Obj)} (hs : Sub fz fz') (hg : g.setL x d = some g') (hv : VIn V fz' v d) (H' : Hp (R.fx (setM m x v) cells ow) fz' s') : SR R V g' (setM m x v) fz' cells ow s' := by
  obtain ⟨h1, h2, rfl⟩ := setL_is hg
  refine ⟨H', fun y d' hy => ?_, H.cel.mono hs, (H.own.mono hs).set h2 h1⟩
  simp only at hy
  rw [look_put] at hy
  split at hy
  · rename_i e
    cases hy
    subst e
    exact ⟨h2, v, setM_eq, hv⟩
  · rename_i e
    obtain ⟨a, u, b, c⟩ := H.loc y d' hy
    exact ⟨a, u, by rw [setM_ne h2 a e]; exact b, c.mono hs⟩

theorem s_asK {x y : Nat} {elt src : X} {py q r t : Pos} {sc : Scope} {ds ys : List SD} (E : ExprOK prog w V K T p loose mean mg mb n) (C : FOk K p loose mean mg mb (R.fx m cells ow) A n) (O : RcOk R) (H : SR R V g m fz cells ow s) (hc : chkS R.env.scope (.asK x elt y py src sc q r t) = true)
    (h : (evs T n).x false g src = some (.lst ds)) (hsz : szL ds = true) (hgo : compGo (fun d => (evs T n).x false { g with v := d } elt) (fun _ => some true) ds = some ys) (hg : g.setL x (.lst ys) = some g') (P : Post R V fz m g' Q .nx) :
    wpAny (model prog w) A (exec (S.asK x elt y py src sc q r t).py R.env) Q No s := by
  have hc := andT hc
  have hc1 := andT hc.1
  have hc2 := andT hc1.1
  have hc3 := andT hc2.1
  have hc4 := andT hc3.1
  obtain ⟨cl, S, hB⟩ := (H.nm (prog := prog) (w := w) (A := A) O).blk y sc hc2.2
  have he : EltOK prog w V (R.fx m cells ow) A R.env fz elt.py (RegLaw.nm y) sc cl (fun d => (evs T n).x false { g with v := d } elt) := fun I oI C' oC D ys m₂ v fz' d y' hC hx hs hv hy =>
    (E _ _ _ _ hy _ A _ fz' _ (C.blk I oI C' oC D ys) (hB I oI C' oC D ys m₂ v fz' d hC hx hs hv).up hc.2).1 rfl
  have hsz := szL_is hsz
  refine LCg.Assign_ListComp_U H.hp.fr rfl (swaps_comp (kindIs_is hc4.1) O.e.k hc4.2 (by simpa using hc3.2) _) (closureFor_is S.cells) S.nocell S.kind S.names S.x (kindIs_is hc4.1) (by rw [O.e.k]; rfl) ?_ (folded_py src R.env)
  refine ex_v (E := E) C O h hc1.2 H fz s _ (Sub.refl _) H.hp fun v s₁ fz₁ h1 H₁ hv => ?_
  cases hv with
  | @lst ax o vs _ hm kk rr =>
    obtain ⟨nn, rfl⟩ := kk
    have z := rr.length
    refine .inl ⟨ax, vs.toArray, fz₁ ++ (R.fx m cells ow).keep, rfl, C.handled, H₁.fr, H₁.nw, .inr ⟨_, H₁.sub _ hm, rfl, nn, rfl⟩, by rw [List.size_toArray]; have := sizeLine_ge; omega, ?_⟩
    rintro s₂ ⟨hh', rfl⟩
    obtain ⟨hh, tk0, es⟩ := H₁.sh
    have hs₂ : ∃ h' tk, ({ s₁ with heap := hh' } : Shared) = { (R.fx m cells ow).s₀ with heap := h', toks := tk } := ⟨hh', tk0, by rw [es]⟩
    rw [List.size_toArray, z]
    refine comp_rest (all := ds) (fzs := fz₁) hs₂ he (fun i v d hv hd => ?_) (fun fz' hsub => .inr ⟨_, List.mem_append_left _ (hsub _ hm), rfl, nn, rfl⟩) ds.length 0 fz₁ [] [] ys (by omega) h1 (Sub.refl _) H₁.nd .nil (by simpa using hgo) ?_
    · have hv' : vs[i]? = some v := by simpa using hv
      obtain ⟨v', hv'', hvd⟩ := rr.get hd
      rw [hv'] at hv''
      cases hv''
      exact hvd
    · intro ys' fz' h2 nd hall D h3 tk F' N' off
      obtain ⟨hh2, tk2, es2⟩ := hs₂
      refine P (setM m x (.ref D)) ((D, LCg.lst ys') :: fz') cells ow _ ((h1.trans h2).trans (Sub.cons _)) (.set (setL_is hg).2.1) ?_
      refine H.set' ((h1.trans h2).trans (Sub.cons _)) hg (.lst (.head _) ⟨_, rfl⟩ ?_) ⟨F', N', off1_nodup off nd, h3, tk, by rw [es2]; rfl⟩
      rw [List.nil_append] at hall
      exact hall.mono (Sub.cons _)

theorem as_many (O : RcOk R) {Q : Unit → Shared → Prop} : ∀ {xs : List (Nat × Pos)} {ds : List SD} {vs : List Value} {g g' : G} {m : Str → Option Value} {s : Shared}, (xs.all fun z => kindIs R.env.scope (nm z.1) .local) = true → setLs g (xs.map (·.1)) ds = some g' → VAll V fz vs ds → SR R V g m fz cells ow s →
    (∀ m' s', Kept m m' → SR R V g' m' fz cells ow s' → Q () s') → wpAny (model prog w) A (assignInOrder (xs.map fun z => assign (.Name (nm z.1) z.2) R.env) vs) Q No s
  | [], ds, vs, g, g', m, s, hk, hg, hv, H, k => by
    cases ds with
    | nil =>
      simp only [List.map_nil, setLs] at hg
      cases hg
      exact assignInOrder_nil (k m s (.refl _) H)
    | cons d ds => simp [setLs] at hg
  | z :: xs, ds, vs, g, g', m, s, hk, hg, hv, H, k => by
    cases hv with
    | nil => simp [setLs] at hg
    | @cons v vs d ds h1 h2 =>
      simp only [List.map_cons, setLs] at hg
      split at hg
      · rename_i g₁ hg₁
        rw [List.all_cons, Bool.and_eq_true] at hk
        rw [List.map_cons]
        refine assignInOrder_cons (PyProof.Rows.assign_Name (st_local O H (kindIs_is hk.1) hg₁ h1 fun s' H' => ?_))
        exact as_many O hk.2 hg h2 H' fun m' s'' q1 q2 => k m' s'' ((Kept.set (setL_is hg₁).2.1).trans q1) q2
      · cases hg
theorem setLs_len : ∀ {xs : List Nat} {ds : List SD} {g g' : G}, setLs g xs ds = some g' → xs.length = ds.length
  | [], [], _, _, _ => rfl
  | [], _ :: _, _, _, h => by simp [setLs] at h
  | _ :: _, [], _, _, h => by simp [setLs] at h
  | x :: xs, d :: ds, g, g', h => by
    simp only [setLs] at h
    split at h
    · rw [List.length_cons, List.length_cons, setLs_len h]
    · cases h
theorem s_asT {xs : List (Nat × Pos)} {e : X} {q r : Pos} {ds : List SD} (E : ExprOK prog w V K T p loose mean mg mb n) (C : FOk K p loose mean mg mb (R.fx m cells ow) A n) (O : RcOk R) (H : SR R V g m fz cells ow s) (hc : chkS R.env.scope (.asT xs e q r) = true)
    (h : (evs T n).x false g e = some (.tup ds)) (hg : setLs g (xs.map (·.1)) ds = some g') (P : Post R V fz m g' Q .nx) : wpAny (model prog w) A (exec (S.asT xs e q r).py R.env) Q No s := by
  have hc := andT hc
  have hc1 := andT hc.1
  have hcall : ∃ f es a b, e = .call f es a b := by
    have := hc1.2
    cases e <;> first | (simp [X.isCall] at this; done) | exact ⟨_, _, _, _, rfl⟩
  obtain ⟨f, es, a, b, rfl⟩ := hcall
  refine Assign_Tuple (hs := by rw [X.py]; rfl) (hw := by rw [X.py]; rfl) ?_
  refine ex_v (E := E) C O h hc.2 H fz s _ (Sub.refl _) H.hp fun v s₁ fz₁ h1 H₁ hv => ?_
  cases hv with
  | @tup ax o vs _ hm kk rr =>
    have z := rr.length
    have z2 := setLs_len hg
    refine assign_Tuple_tuple C.handled (H₁.tup hm kk) ?_ ?_ fun h' he => ?_
    · rw [each_names]; simp; simp at z2; omega
    · rw [each_names]; simp
    · rw [each_names, List.map_map]
      have F' : Fr R.h₀ R.env.locals h' m := H₁.fr.extBut he (Nat.le_refl _)
      have N' : News R.h₀ R.env.locals h' (fz₁ ++ (R.fx m cells ow).keep) := fun q hq => ⟨he _ _ (Nat.ne_of_lt (Heap.lt_size (H₁.nw q hq).1)) (H₁.nw q hq).1, (H₁.nw q hq).2⟩
      have H₂ := H.up h1 (H₁.at' F' N')
      exact as_many O hc1.1 hg rr H₂ fun m' s' q1 q2 => P _ _ _ _ _ h1 q1 q2

theorem find_own {x : Nat} {ok : List SD → Bool} {f : List SD → List SD} {o' : List (Nat × List SD)} (H : SR R V g m fz cells ow s) (ho : putO x ok f g.o = some o') :
    ∃ c o vs ds b1 b2, ow = b1 ++ (c, o) :: b2 ∧ m (nm x) = some (.ref c) ∧ SeqObj "list" vs o ∧ VAll V fz vs ds ∧ ok ds = true ∧ (c, o) ∈ fz ++ (R.fx m cells ow).keep ∧
      (∀ (vs' : List Value) (o'' : Obj) (h' : Heap) (t : Nat), SeqObj "list" vs' o'' → VAll V fz vs' (f ds) → Heap.SameBut c s.heap h' → h'.get? c = some o'' → SR R V { g with o := o' } m fz cells (b1 ++ (c, o'') :: b2) { s with heap := h', toks := t }) := by
  obtain ⟨c, o, vs, ds, b1, b2, rfl, e1, e2, e3, e4, e5⟩ := H.own.put ho
  refine ⟨c, o, vs, ds, b1, b2, rfl, e1, e2, e3, e4, List.mem_append_right _ (List.mem_append_right _ (List.mem_append_left _ (List.mem_append_right _ (.head _)))), fun vs' o'' h' t q1 q2 hs ho'' => ?_⟩
  refine ⟨?_, H.loc, H.cel, e5 vs' o'' q1 q2⟩
  have H₁ : Hp { R.fx m [] [] with keep := (cells ++ b1) ++ (c, o) :: (b2 ++ R.led) } fz s := H.hp.perm rfl rfl rfl rfl (by simp [Rc.fx])
  exact (H₁.upd (t := t) hs ho'').perm rfl rfl rfl rfl (by simp [Rc.fx])
theorem setM_same {m : Str → Option Value} {x : Nat} {v : Value} (h : m (nm x) = some v) : setM m x v = m := by
  funext y
  unfold setM
  split
  · rename_i e; rw [e, h]
  · rfl

theorem s_app {x : Nat} {e : X} {q r t u : Pos} {d : SD} {o' : List (Nat × List SD)} (E : ExprOK prog w V K T p loose mean mg mb n) (C : FOk K p loose mean mg mb (R.fx m cells ow) A n) (O : RcOk R) (H : SR R V g m fz cells ow s) (hc : chkS R.env.scope (.app x e q r t u) = true)
    (h : (evs T n).x false g e = some d) (ho : putO x szL (fun xs => xs ++ [d]) g.o = some o') (P : Post R V fz m { g with o := o' } Q .nx) : wpAny (model prog w) A (exec (S.app x e q r t u).py R.env) Q No s := by
  have hc := andT hc
  have hc1 := andT hc.1
  obtain ⟨c0, _, _, _, _, _, _, e10, _⟩ := find_own H ho
  refine wpAny_Expr ?_ (by unfold interactive; rw [O.e.k]; rfl) rfl
  refine Call_method1 (isNm_base (e := .loc x q) rfl _ _) (by rw [starEach_py]; rfl) hc1.2 ?_
  refine wpAny_Name (wpAny_loadName_local O.e.k (kindIs_is hc1.1) H.hp.fr.ns e10 ?_) (nm_dbg x)
  have hT : ∃ ob, s.heap.get? c0 = some ob ∧ ob.cls = .type "list" ∧ ob.dict = none := by
    obtain ⟨c, o, vs, ds, b1, b2, _, e1, ⟨k, rfl⟩, _, _, hm, _⟩ := find_own H ho
    rw [e10] at e1
    cases e1
    exact ⟨_, H.hp.nw.get hm, rfl, rfl⟩
  obtain ⟨ob, g1, g2, g3⟩ := hT
  refine ⟨"list", "list.append", PySem.F.plainAttrs_list, PySem.F.slot_list_append, PySem.F.type_list_append, ⟨ob, g1, g2⟩, (fun a ea => by cases ea; exact ⟨ob, g1, g3⟩), ?_⟩
  refine Calls.callWith_builtin rfl (Calls.evalArgs_plain (Calls.spliced_cons ?_))
  refine ex_v (E := E) C O h hc.2 H fz s _ (Sub.refl _) H.hp fun v s₁ fz₁ h1 H₁ hv => Calls.spliced_nil ?_
  have H₂ := H.up h1 H₁
  obtain ⟨c, o, vs, ds, b1, b2, _, e1, ⟨k, rfl⟩, hvs, hok, hm, fin⟩ := find_own H₂ ho
  rw [e10] at e1
  cases e1
  have hsz := szL_is hok
  have z := hvs.length
  refine append_at (H₂.hp.nw.get hm) (fun h' hs ho'' => ?_) (by rw [List.size_toArray]; have := sizeLine_ge; omega)
  have e2 : vs.toArray.push v = (vs ++ [v]).toArray := by simp
  rw [e2] at ho''
  exact P _ _ _ _ _ h1 (.refl _) (fin (vs ++ [v]) _ h' s₁.toks ⟨_, rfl⟩ (hvs.append (.cons hv .nil)) hs ho'')
theorem s_augO {x : Nat} {e : X} {q r : Pos} {es : List SD} {o' : List (Nat × List SD)} (E : ExprOK prog w V K T p loose mean mg mb n) (C : FOk K p loose mean mg mb (R.fx m cells ow) A n) (O : RcOk R) (H : SR R V g m fz cells ow s) (hc : chkS R.env.scope (.augO x e q r) = true)
    (h : (evs T n).x false g e = some (.lst es)) (ho : putO x (fun xs => szL xs && szL es) (fun xs => xs ++ es) g.o = some o') (P : Post R V fz m { g with o := o' } Q .nx) : wpAny (model prog w) A (exec (S.augO x e q r).py R.env) Q No s := by
  have hc := andT hc
  obtain ⟨c0, _, _, _, _, _, _, e10, _⟩ := find_own H ho
  refine wpAny_AugAssign_Name (wpAny_loadName_local O.e.k (kindIs_is hc.1) H.hp.fr.ns e10 ?_)
  refine ex_v (E := E) C O h hc.2 H fz s _ (Sub.refl _) H.hp fun v s₁ fz₁ h1 H₁ hv => ?_
  have H₂ := H.up h1 H₁
  obtain ⟨c, o, vs, ds, b1, b2, _, e1, ⟨k, rfl⟩, hvs, hok, hm, fin⟩ := find_own H₂ ho
  rw [e10] at e1
  cases e1
  have hok := andT hok
  have hsz := szL_is hok.1
  have hsz2 := szL_is hok.2
  have z := hvs.length
  cases hv with
  | @lst ax ob us _ hmx kk rr =>
    obtain ⟨nn, rfl⟩ := kk
    have z2 := rr.length
    refine inplace_list (H₂.hp.nw.get hm) (H₁.get hmx) (by have := sizeLine_ge; omega) fun h' n' hs ho'' => ?_
    have H₃ := fin (vs ++ us) _ h' s₁.toks ⟨_, rfl⟩ (hvs.append rr) hs ho''
    refine wpAny_storeName_local (kindIs_is hc.1) H₃.hp.fr.ns (fun h'' hn hs' => ?_) (by rw [O.e.k]; rfl)
    have hn' : h''.Ns R.env.locals (setM m x (.ref c0)) := hn
    rw [setM_same e10] at hn'
    refine P m fz₁ cells _ _ h1 (.refl _) (H₃.up (Sub.refl _) ?_)
    obtain ⟨hh, tk, es'⟩ := H₃.hp.sh
    exact ⟨H₃.hp.fr.set hn' hs', H₃.hp.nw.set hs', H₃.hp.nd, h'', _, by rw [es']⟩
theorem s_augL {x : Nat} {e : X} {q r : Pos} {a b : List Pc} (hV : V.Ok) (E : ExprOK prog w V K T p loose mean mg mb n) (C : FOk K p loose mean mg mb (R.fx m cells ow) A n) (O : RcOk R) (H : SR R V g m fz cells ow s) (hc : chkS R.env.scope (.augL x e q r) = true)
    (hl : look g.l x = some (.str a)) (h : (evs T n).x false g e = some (.str b)) (hsz : Nat.blt (tlen a + tlen b) 10000 = true) (hg : g.setL x (.str (cat a b)) = some g') (P : Post R V fz m g' Q .nx) : wpAny (model prog w) A (exec (S.augL x e q r).py R.env) Q No s := by
  have hc := andT hc
  obtain ⟨_, v0, e10, hv0⟩ := H.loc x _ hl
  rw [Nat.blt_eq] at hsz
  refine wpAny_AugAssign_Name (wpAny_loadName_local O.e.k (kindIs_is hc.1) H.hp.fr.ns e10 ?_)
  refine ex_v (E := E) C O h hc.2 H fz s _ (Sub.refl _) H.hp fun v s₁ fz₁ h1 H₁ hv => ?_
  have H₂ := H.up h1 H₁
  cases hv0 with
  | str _ t0 =>
    cases hv with
    | str _ t1 =>
      refine SBL.iadd (fun t' k' _ => ?_) ?_
      · rw [← txt_cat]
        refine st_local O (H₂.up (Sub.refl _) (H₂.hp.tok k')) (kindIs_is hc.1) hg (.str _ _) fun s' H' => ?_
        exact P _ _ _ _ _ h1 (.set (setL_is hg).2.1) H'
      · have h1 := tlen_is hV (ps := a) (by omega)
        have h2 := tlen_is hV (ps := b) (by omega)
        rw [txt_len, txt_len]
        have := sizeLine_ge
        omega
theorem s_augC {x : Nat} {e : X} {q r : Pos} {a b i : IE} {c' : List (Nat × Option SD)} (hV : V.Ok) (E : ExprOK prog w V K T p loose mean mg mb n) (C : FOk K p loose mean mg mb (R.fx m cells ow) A n) (O : RcOk R) (H : SR R V g m fz cells ow s) (hc : chkS R.env.scope (.augC x e q r) = true)
    (hl : look g.c x = some (some (.int a))) (h : (evs T n).x false g e = some (.int b)) (hi : IE.add a b = some i) (hg : putO x (fun _ => true) (fun _ => some (.int i)) g.c = some c') (P : Post R V fz m { g with c := c' } Q .nx) : wpAny (model prog w) A (exec (S.augC x e q r).py R.env) Q No s := by
  have hc := andT hc
  obtain ⟨c, o, v0, q1, q2, q3, q4, hv0⟩ := H.cel.look hl
  refine wpAny_AugAssign_Name (wpAny_loadName_cell O.e.k (kindIs_is hc.1) q2 ⟨o, H.hp.nw.get (List.mem_append_right _ (List.mem_append_left _ q1)), q4⟩ ?_)
  refine ex_v (E := E) C O h hc.2 H fz s _ (Sub.refl _) H.hp fun v s₁ fz₁ h1 H₁ hv => ?_
  have H₂ := H.up h1 H₁
  have he : a.ev V + b.ev V = i.ev V := by
    have ha := hi
    unfold IE.add at ha
    split at ha
    · rename_i hb
      cases ha
      have : b.v = 0 := Nat.eq_of_beq_eq_true hb
      simp only [IE.ev, this, hV.zero]; omega
    · split at ha
      · rename_i hb
        cases ha
        have : a.v = 0 := Nat.eq_of_beq_eq_true hb
        simp only [IE.ev, this, hV.zero]; omega
      · cases ha
  cases hv0 with
  | int _ t0 =>
    cases hv with
    | int _ t1 =>
      refine PySem.P.iadd_int ?_
      rw [he]
      refine st_cell O (H₂.up (Sub.refl _) (H₂.hp.tok _)) hg (.int _ _) fun s' cells' H' => ?_
      exact P _ _ _ _ _ h1 (.refl _) H'
end
end RegLaw

namespace RegLaw
open PySem PySem.Calls PySem.W PyProof.Rows

section
variable {prog : Program} {w : World} {V : Vl} {R : Rc} {A : Around} {fz cells ow : List (Addr × Obj)} {m : Str → Option Value} {s : Shared} {g g' : G} {K : Frag} {T : Tb} {p : Program} {loose : List Str} {mean : ExcName → Option Value} {mg mb : Str → Option Value} {n : Nat} {Q : Flow → Shared → Prop} {fl : Fl}
/- a frame's own lists, now for good -/
theorem OwnR.frozen : ∀ {a : List (Nat × List SD)} {b : List (Addr × Obj)}, OwnR V fz m a b → ∀ (l : List (Nat × SD)) (fz' : List (Addr × Obj)), Sub fz fz' → Sub b fz' → (∀ x d, look l x = some d → x < nmN ∧ ∃ v, m (nm x) = some v ∧ VIn V fz' v d) →
    ∀ x d, look (a.map (fun p => (p.1, SD.lst p.2)) ++ l) x = some d → x < nmN ∧ ∃ v, m (nm x) = some v ∧ VIn V fz' v d
  | _, _, .nil, l, fz', h1, h2, h3 => h3
  | _, _, .cons (x := y) h0 e1 e2 e3 r, l, fz', h1, h2, h3 => fun x d hx => by
    simp only [List.map_cons, List.cons_append, look] at hx
    split at hx
    · rename_i e
      have e := Nat.eq_of_beq_eq_true e
      subst e
      cases hx
      exact ⟨h0, _, e1, .lst (h2 _ (.head _)) e2 (e3.mono h1)⟩
    · exact OwnR.frozen r l fz' h1 (fun q hq => h2 q (.tail _ hq)) h3 x d hx
theorem s_ret {e : X} {q : Pos} {d : SD} (E : ExprOK prog w V K T p loose mean mg mb n) (C : FOk K p loose mean mg mb (R.fx m cells ow) A n) (O : RcOk R) (H : SR R V g m fz cells ow s) (hc : chkS R.env.scope (.ret e q) = true)
    (h : (evs T n).x false { l := g.o.map (fun p => (p.1, SD.lst p.2)) ++ g.l, c := g.c, o := [], v := g.v } e = some d) (P : Post R V fz m g' Q (.rt d)) : wpAny (model prog w) A (exec (S.ret e q).py R.env) Q No s := by
  refine wpAny_Return_some ?_
  have H₀ : Hp (R.fx m cells []) (ow ++ fz) s := H.hp.perm rfl rfl rfl rfl (by
    simp only [Rc.fx, List.nil_append, List.append_assoc]
    refine List.perm_append_comm.trans ?_
    simp only [List.append_assoc]
    refine List.Perm.append_left fz (List.Perm.append_left cells ?_)
    exact List.perm_append_comm)
  have s1 : Sub fz (ow ++ fz) := fun q hq => List.mem_append_right _ hq
  have H₁ : SR R V { l := g.o.map (fun p => (p.1, SD.lst p.2)) ++ g.l, c := g.c, o := [], v := g.v } m (ow ++ fz) cells [] s :=
    ⟨H₀, H.own.frozen g.l _ s1 (fun q hq => List.mem_append_left _ hq) (fun x d hx => let ⟨a, v, b, c⟩ := H.loc x d hx; ⟨a, v, b, c.mono s1⟩), H.cel.mono s1, .nil⟩
  refine ex_v (E := E) (C.any (F' := R.fx m cells []) rfl rfl) O h hc H₁ _ s _ (Sub.refl _) H₁.hp fun v s₁ fz₁ h1 H₂ hv => ?_
  exact P v m fz₁ cells s₁ (s1.trans h1) H₂ hv

theorem s_ife {t : X} {a b : List S} {q : Pos} {c : Bool} (E : ExprOK prog w V K T p loose mean mg mb n) (SO : StmtOK prog w V K T p loose mean mg mb n) (C : FOk K p loose mean mg mb (R.fx m cells ow) A n) (O : RcOk R) (H : SR R V g m fz cells ow s)
    (hc : chkS R.env.scope (.ife t a b q) = true) (h : boolOf ((evs T n).x true g t) = some c) (hb : (evs T n).s g (if c then a else b) = some (fl, g')) (P : Post R V fz m g' Q fl) :
    wpAny (model prog w) A (exec (S.ife t a b q).py R.env) Q No s := by
  have hc := andT hc
  have hc1 := andT hc.1
  refine wpAny_If ?_
  refine ex_b (E := E) C O h hc1.1 H fz s _ (Sub.refl _) H.hp fun s₁ fz₁ h1 H₁ => ?_
  have H₂ := H.up h1 H₁
  cases c
  · exact SO _ _ _ _ hb R A m fz₁ cells ow s₁ Q C O hc.2 H₂ (P.up h1 (.refl _))
  · exact SO _ _ _ _ hb R A m fz₁ cells ow s₁ Q C O hc1.2 H₂ (P.up h1 (.refl _))

/- a single statement that is no loop -/
theorem one_sound {st : S} (hV : V.Ok) (KK : KOk K w T) (E : ExprOK prog w V K T p loose mean mg mb n) (SO : StmtOK prog w V K T p loose mean mg mb n) (C : FOk K p loose mean mg mb (R.fx m cells ow) A n) (O : RcOk R) (H : SR R V g m fz cells ow s)
    (hc : chkS R.env.scope st = true) (h : stepOne T (evs T n).x (evs T n).s g st = some (fl, g')) (P : Post R V fz m g' Q fl) : wpAny (model prog w) A (exec st.py R.env) Q No s := by
  cases st with
  | asL x e q r =>
    simp only [stepOne] at h
    split at h
    · rename_i d hd
      split at h
      · rename_i g₁ hg
        cases h
        exact s_asL E C O H hc hd hg P
      · cases h
    · cases h
  | asK x elt y py src sc q r t =>
    simp only [stepOne] at h
    split at h
    · rename_i ds hd
      split at h
      · rename_i hsz
        split at h
        · rename_i ys hys
          split at h
          · rename_i g₁ hg
            cases h
            exact s_asK E C O H hc hd hsz hys hg P
          · cases h
        · cases h
      · cases h
    · cases h
  | asC x e q r =>
    simp only [stepOne] at h
    split at h
    · rename_i d hd
      split at h
      · rename_i c' hg
        cases h
        exact s_asC E C O H hc hd hg P
      · cases h
    · cases h
  | own x es q r t =>
    simp only [stepOne] at h
    split at h
    · rename_i ds hd
      split at h
      · rename_i h1 h2 h3
        cases h
        have h3 := andT h3
        exact s_own E C O H hc hd h1 h2 (by simpa [Nat.blt_eq] using h3.1) h3.2 P
      · cases h
    · cases h
  | asT xs e q r =>
    simp only [stepOne] at h
    split at h
    · rename_i ds hd
      split at h
      · rename_i g₁ hg
        cases h
        exact s_asT E C O H hc hd hg P
      · cases h
    · cases h
  | augO x e q r =>
    simp only [stepOne] at h
    split at h
    · rename_i ds hd
      split at h
      · rename_i o' hg
        cases h
        exact s_augO E C O H hc hd hg P
      · cases h
    · cases h
  | augL x e q r =>
    simp only [stepOne] at h
    split at h
    · rename_i a ha
      split at h
      · rename_i b hb
        split at h
        · rename_i hsz
          split at h
          · rename_i g₁ hg
            cases h
            exact s_augL hV E C O H hc ha hb hsz hg P
          · cases h
        · cases h
      · cases h
    · cases h
  | augC x e q r =>
    simp only [stepOne] at h
    split at h
    · rename_i a ha
      split at h
      · rename_i b hb
        split at h
        · rename_i i hi
          split at h
          · split at h
            · rename_i c' hg
              cases h
              exact s_augC hV E C O H hc ha hb hi hg P
            · cases h
          · cases h
        · cases h
      · cases h
    · cases h
  | app x e q r t u =>
    simp only [stepOne] at h
    split at h
    · rename_i d hd
      split at h
      · rename_i o' hg
        cases h
        exact s_app E C O H hc hd hg P
      · cases h
    · cases h
  | ife t a b q =>
    simp only [stepOne] at h
    split at h
    · rename_i ht
      exact s_ife (c := true) E SO C O H hc ht (by simpa using h) P
    · rename_i ht
      exact s_ife (c := false) E SO C O H hc ht (by simpa using h) P
    · cases h
  | forR x hi body px pn pr q => simp [stepOne] at h
  | ret e q =>
    simp only [stepOne] at h
    split at h
    · rename_i d hd
      cases h
      exact s_ret E C O H hc hd P
    · cases h
end
end RegLaw

namespace RegLaw
open PySem PySem.Calls PySem.W PyProof.Rows

theorem Hp.less {F F' : Fx} {fz fz' : List (Addr × Obj)} {s : Shared} (H : Hp F fz s) (h1 : F'.h₀ = F.h₀) (h2 : F'.L = F.L) (h3 : F'.m = F.m) (h4 : F'.s₀ = F.s₀) (hp : (fz' ++ F'.keep).Sublist (fz ++ F.keep)) : Hp F' fz' s :=
  ⟨by rw [h1, h2, h3]; exact H.fr, by rw [h1, h2]; exact fun p q => H.nw p (hp.subset q), (hp.map _).nodup H.nd, by rw [h4]; exact H.sh⟩

section
variable {prog : Program} {w : World} {V : Vl} {R : Rc} {A : Around} {fz cells ow : List (Addr × Obj)} {m : Str → Option Value} {s : Shared} {g g' : G} {K : Frag} {T : Tb} {p : Program} {loose : List Str} {mean : ExcName → Option Value} {mg mb : Str → Option Value} {n : Nat} {Q : Flow → Shared → Prop} {fl : Fl}
theorem perm_it (fz cells ow led : List (Addr × Obj)) (x : Addr × Obj) : (fz ++ (cells ++ (ow ++ x :: led))).Perm (x :: (fz ++ (cells ++ (ow ++ led)))) := by
  have e1 : fz ++ (cells ++ (ow ++ x :: led)) = (fz ++ (cells ++ ow)) ++ x :: led := by simp
  have e2 : fz ++ (cells ++ (ow ++ led)) = (fz ++ (cells ++ ow)) ++ led := by simp
  rw [e1, e2]
  exact List.perm_middle
theorem for_rest {x : Nat} {body : List S} {I : Addr} {nn : Nat} (hV : V.Ok) (SO : StmtOK prog w V K T p loose mean mg mb n) (O : RcOk R) (hx : R.env.kindOf (nm x) = some .local) (hcb : chkSs R.env.scope body = true) (hs : ∃ h tk, s = { R.s₀ with heap := h, toks := tk })
    (C : ∀ m cells ow, FOk K p loose mean mg mb (R.fx m cells ow) A n) :
    ∀ (k i : Nat) (g : G) (fl : Fl) (g' : G) (m : Str → Option Value) (fz cells ow : List (Addr × Obj)), forGo (fun g => (evs T n).s g body) x k i g = some (fl, g') → (I :: (fz ++ (cells ++ (ow ++ R.led))).map (·.1)).Nodup →
      (∀ x d, look g.l x = some d → x < nmN ∧ ∃ v, m (nm x) = some v ∧ VIn V fz v d) → CellR V fz R.env g.c cells → OwnR V fz m g.o ow → Post R V fz m g' Q fl →
      RangeRest prog w A No R.h₀ R.env (nm x) (spys body) Q s I 0 nn k i m (fz ++ (cells ++ (ow ++ R.led)))
  | 0, i, g, fl, g', m, fz, cells, ow, hf, nd, hl, hc, ho, P => by
    simp only [forGo] at hf
    cases hf
    obtain ⟨h0, tk0, es⟩ := hs
    refine RangeRest.zero fun h tk F N => P m fz cells ow _ (Sub.refl _) (.refl _) ⟨⟨F, N, (List.nodup_cons.mp nd).2, h, tk, by rw [es]; rfl⟩, hl, hc, ho⟩
  | k + 1, i, g, fl, g', m, fz, cells, ow, hf, nd, hl, hc, ho, P => by
    simp only [forGo] at hf
    refine RangeRest.succ fun t h tk F N => ?_
    split at hf
    · rename_i g₁ hg₁
      have hs' := hs
      obtain ⟨h0, tk0, es⟩ := hs'
      obtain ⟨hlo, hxN, hg₁e⟩ := setL_is hg₁
      let it : Obj := itR (0 + ((i + 1 : Nat) : Int)) ((nn : Int) - ((i + 1 : Nat) : Int))
      let R' : Rc := { R with led := (I, it) :: R.led }
      have e0 : ((0 : Int) + (i : Int)) = (IE.mk 0 (Int.ofNat i)).ev V := by rw [ev_const hV]; simp
      have hperm := perm_it fz cells ow R.led (I, it)
      have H₁ : Hp (R'.fx (setM m x (.int (0 + (i : Int)) t)) cells ow) fz { s with heap := h, toks := tk } :=
        ⟨F, fun q hq => N q (hperm.mem_iff.mp hq), (hperm.map _).nodup_iff.mpr nd, h, tk, by rw [es]; rfl⟩
      have HS : SR R' V g₁ (setM m x (.int (0 + (i : Int)) t)) fz cells ow { s with heap := h, toks := tk } := by
        subst hg₁e
        refine ⟨H₁, fun y d' hy => ?_, hc, ho.set hxN hlo⟩
        simp only at hy
        rw [look_put] at hy
        split at hy
        · rename_i e
          cases hy
          subst e
          exact ⟨hxN, _, setM_eq, by rw [e0]; exact .int _ _⟩
        · rename_i e
          obtain ⟨a, u, b, c⟩ := hl y d' hy
          exact ⟨a, u, by rw [setM_ne hxN a e]; exact b, c⟩
      have back : ∀ {m₂ : Str → Option Value} {fz₂ cells₂ ow₂ : List (Addr × Obj)} {s₂ : Shared}, Hp (R'.fx m₂ cells₂ ow₂) fz₂ s₂ → Fr R.h₀ R.env.locals s₂.heap m₂ ∧ News R.h₀ R.env.locals s₂.heap ((I, it) :: (fz₂ ++ (cells₂ ++ (ow₂ ++ R.led)))) ∧
          (I :: (fz₂ ++ (cells₂ ++ (ow₂ ++ R.led))).map (·.1)).Nodup ∧ s₂ = { ({ s with heap := h, toks := tk } : Shared) with heap := s₂.heap, toks := s₂.toks } := by
        intro m₂ fz₂ cells₂ ow₂ s₂ H₂
        have hperm₂ := perm_it fz₂ cells₂ ow₂ R.led (I, it)
        obtain ⟨h2, tk2, es2⟩ := H₂.sh
        exact ⟨H₂.fr, fun q hq => H₂.nw q (hperm₂.mem_iff.mpr hq), (hperm₂.map _).nodup_iff.mp H₂.nd, by rw [es2, es]; rfl⟩
      have Ck : FOk K p loose mean mg mb (R'.fx (setM m x (.int (0 + (i : Int)) t)) cells ow) A n := (C m cells ow).any rfl rfl
      split at hf
      · rename_i g₂ hb
        refine SO _ _ _ _ hb R' A _ fz cells ow _ _ Ck ⟨O.e, O.cel⟩ hcb HS ?_
        intro m₂ fz₂ cells₂ ow₂ s₂ h1 h2 H₂
        obtain ⟨F₂, N₂, nd₂, e₂⟩ := back H₂.hp
        refine ⟨s₂.heap, s₂.toks, m₂, fz₂ ++ (cells₂ ++ (ow₂ ++ R.led)), e₂, F₂, N₂, fun q hq e => ?_, ?_⟩
        · have z := List.mem_map_of_mem (f := fun q : Addr × Obj => q.1) hq
          simp only [e] at z
          exact (List.nodup_cons.mp nd₂).1 z
        · exact for_rest hV SO O hx hcb hs C k (i + 1) g₂ fl g' m₂ fz₂ cells₂ ow₂ hf nd₂ H₂.loc H₂.cel H₂.own (P.up h1 ((Kept.set hxN).trans h2))
      · rename_i d g₂ hb
        cases hf
        refine SO _ _ _ _ hb R' A _ fz cells ow _ _ Ck ⟨O.e, O.cel⟩ hcb HS ?_
        intro v m₂ fz₂ cells₂ s₂ h1 H₂ hv
        refine P v m₂ fz₂ cells₂ s₂ h1 (H₂.less rfl rfl rfl rfl ?_) hv
        simp only [Rc.fx, List.nil_append]
        exact List.Sublist.append_left (List.Sublist.append_left (List.sublist_cons_self _ _) _) _
      · cases hf
    · cases hf

theorem s_for {x : Nat} {hi : X} {body : List S} {px pn pr q : Pos} {d : SD} {k : Nat} (hV : V.Ok) (KK : KOk K w T) (E : ExprOK prog w V K T p loose mean mg mb n) (SO : StmtOK prog w V K T p loose mean mg mb n) (C : FOk K p loose mean mg mb (R.fx m cells ow) A n) (O : RcOk R) (H : SR R V g m fz cells ow s)
    (hc : chkS R.env.scope (.forR x hi body px pn pr q) = true) (h : (evs T n).x false g hi = some d) (hk : natOf d = some k) (hf : forGo (fun g => (evs T n).s g body) x k 0 g = some (fl, g')) (P : Post R V fz m g' Q fl) :
    wpAny (model prog w) A (exec (S.forR x hi body px pn pr q).py R.env) Q No s := by
  have hc := andT hc
  have hc1 := andT hc.1
  have hc2 := andT hc1.1
  obtain ⟨_, hb⟩ := natOf_is hk
  refine For_invVF H.hp.fr (kindIs_is hc2.1) (by rw [O.e.k]; rfl) ?_ (folded_range R.env) PassesOwn.never
  refine rng_then hV C O.e KK (kindIs_is hc2.2) (ex_v (E := E) C O h hc1.2 H) hk (Sub.refl _) H.hp fun r s₁ fz₁ t₁ u₁ v₁ h1 H₁ hr => ?_
  have H₂ := H.up h1 H₁
  refine iter_rangeUnr (n := k) (news := fz₁ ++ (cells ++ (ow ++ R.led))) C.handled hr (small_one (by decide) (by decide) (by simp) (by simp; omega)) (by rw [rangeSize_nat]; simp) H₁.fr H₁.nw fun I hI => ?_
  refine for_rest hV SO O (kindIs_is hc2.1) hc.2 H₁.sh (fun m cells ow => C.any rfl rfl) k 0 g fl g' m fz₁ cells ow hf ?_ H₂.loc H₂.cel H₂.own (P.up h1 (.refl _))
  refine List.nodup_cons.mpr ⟨fun hm => ?_, H₁.nd⟩
  obtain ⟨q', hq', e⟩ := List.mem_map.mp hm
  have z := hI q' hq'
  rw [e] at z
  exact Nat.lt_irrefl _ z

theorem step_sound {st : S} (hV : V.Ok) (KK : KOk K w T) (E : ExprOK prog w V K T p loose mean mg mb n) (SO : StmtOK prog w V K T p loose mean mg mb n) (C : FOk K p loose mean mg mb (R.fx m cells ow) A n) (O : RcOk R) (H : SR R V g m fz cells ow s)
    (hc : chkS R.env.scope st = true) (h : stepFor T (evs T n).x (evs T n).s g st = some (fl, g')) (P : Post R V fz m g' Q fl) : wpAny (model prog w) A (exec st.py R.env) Q No s := by
  cases st with
  | forR x hi body px pn pr q =>
    simp only [stepFor] at h
    split at h
    · rename_i d hd
      split at h
      · rename_i k hk
        exact s_for hV KK E SO C O H hc hd hk h P
      · cases h
    · cases h
  | _ => exact one_sound hV KK E SO C O H hc h P

theorem seq_sound (hV : V.Ok) (KK : KOk K w T) (E : ExprOK prog w V K T p loose mean mg mb n) (SO : StmtOK prog w V K T p loose mean mg mb n) (O : RcOk R) :
    ∀ {ss : List S} {g g' : G} {fl : Fl} {m : Str → Option Value} {fz cells ow : List (Addr × Obj)} {s : Shared} {Q : Flow → Shared → Prop}, FOk K p loose mean mg mb (R.fx m cells ow) A n → seqGo (stepFor T (evs T n).x (evs T n).s) g ss = some (fl, g') → chkSs R.env.scope ss = true →
      SR R V g m fz cells ow s → Post R V fz m g' Q fl → wpAny (model prog w) A (execs (spys ss) R.env) Q No s
  | [], g, g', fl, m, fz, cells, ow, s, Q, C, h, hc, H, P => by
    simp only [seqGo] at h
    cases h
    rw [spys]
    exact wpAny_execs_nil (P m fz cells ow s (Sub.refl _) (.refl _) H)
  | st :: r, g, g', fl, m, fz, cells, ow, s, Q, C, h, hc, H, P => by
    simp only [seqGo] at h
    rw [chkSs, Bool.and_eq_true] at hc
    rw [spys]
    refine wpAny_execs_cons ?_
    split at h
    · rename_i g₁ h1
      refine step_sound hV KK E SO C O H hc.1 h1 ?_
      intro m₂ fz₂ cells₂ ow₂ s₂ h2 h3 H₂
      exact seq_sound hV KK E SO O (C.any (F' := R.fx m₂ cells₂ ow₂) rfl rfl) h hc.2 H₂ (P.up h2 h3)
    · rename_i d g₁ h1
      cases h
      refine step_sound hV KK E SO C O H hc.1 h1 ?_
      intro v m₂ fz₂ cells₂ s₂ h2 H₂ hv
      exact P v m₂ fz₂ cells₂ s₂ h2 H₂ hv
    · cases h
theorem StmtOK.zero : StmtOK prog w V K T p loose mean mg mb 0 := fun g ss fl g' h => by simp [evs] at h
theorem StmtOK.succ (hV : V.Ok) (KK : KOk K w T) (E : ExprOK prog w V K T p loose mean mg mb n) (SO : StmtOK prog w V K T p loose mean mg mb n) : StmtOK prog w V K T p loose mean mg mb (n + 1) := by
  intro g ss fl g' h R A m fz cells ow s Q C O hc H P
  simp only [evs] at h
  exact seq_sound hV KK E SO O C.down h hc H P
end
end RegLaw

namespace RegLaw
open PySem PySem.Calls PySem.W PyProof.Rows

/- what the written part must say of a function of the text's own -/
structure FnFd (K : Frag) (a : Addr) (ps cs : List Nat) (body : List S) (name qual : Str) (params : Arguments) (scope : Scope) (dV kV doc pm : Value) (an : Option Addr) (cdv ct : Value) : Prop where
  obj : ∃ oc od osl, K.lookup a = some ⟨oc, od, .func (fnOf name qual params (spys body) scope dV kV doc pm an cdv ct), osl⟩
  code : codeIn K cdv qual = true
  bind : ∀ (s : Shared) (vs : List Value), vs.length = ps.length → BindsTo s (fnOf name qual params (spys body) scope dV kV doc pm an cdv ct) ⟨vs, []⟩ ((ps.map nm).zip vs)
  nd : ps.Nodup
  lt : ∀ x ∈ ps, x < nmN
  kinds : (ps.all fun x => if cs.any (Nat.beq x) then kindIs scope (nm x) .cell else kindIs scope (nm x) .local) = true
  cells : (cellsFrom 0 scope.names []).map (·.1) = cs.map nm
  ckind : (cs.all fun x => kindIs scope (nm x) .cell) = true
  cnd : (cs.map nm).Nodup
  chk : chkSs scope body = true
  k : scope.kind = .function
  co : scope.isCoroutine = false
  gen : scope.isGenerator = false

theorem look_filter {α : Type} {P : Nat → Bool} : ∀ {l : List (Nat × α)} {x : Nat} {d : α}, look (l.filter fun p => P p.1) x = some d → look l x = some d ∧ P x = true
  | [], x, d, h => by simp [look] at h
  | p :: r, x, d, h => by
    rw [List.filter_cons] at h
    simp only [look]
    split at h
    · rename_i hp
      simp only [look] at h
      split at h
      · rename_i e
        have e' := Nat.eq_of_beq_eq_true e
        cases h
        rw [← e']
        simp [hp]
      · exact look_filter h
    · rename_i hp
      obtain ⟨h1, h2⟩ := look_filter h
      have : Nat.beq p.1 x = false := by
        cases e : Nat.beq p.1 x with
        | false => rfl
        | true =>
          have e' := Nat.eq_of_beq_eq_true e
          rw [e'] at hp
          exact absurd h2 hp
      rw [this]
      exact ⟨h1, h2⟩
theorem bindP_keys : ∀ {ps : List Nat} {ds : List SD} {bs : List (Nat × SD)} {x : Nat} {d : SD}, bindP ps ds = some bs → look bs x = some d → x ∈ ps
  | [], [], bs, x, d, h, hl => by simp only [bindP] at h; cases h; simp [look] at hl
  | [], _ :: _, _, _, _, h, _ => by simp [bindP] at h
  | _ :: _, [], _, _, _, h, _ => by simp [bindP] at h
  | p :: ps, e :: ds, bs, x, d, h, hl => by
    simp only [bindP] at h
    split at h
    · rename_i r hr
      cases h
      simp only [look] at hl
      split at hl
      · rename_i e
        exact Nat.eq_of_beq_eq_true e ▸ .head _
      · exact .tail _ (bindP_keys hr hl)
    · cases h
theorem bindP_len : ∀ {ps : List Nat} {ds : List SD} {bs : List (Nat × SD)}, bindP ps ds = some bs → ps.length = ds.length
  | [], [], _, _ => rfl
  | [], _ :: _, _, h => by simp [bindP] at h
  | _ :: _, [], _, h => by simp [bindP] at h
  | p :: ps, e :: ds, bs, h => by
    simp only [bindP] at h
    split at h
    · rename_i r hr
      rw [List.length_cons, List.length_cons, bindP_len hr]
    · cases h

theorem cellsFrom_apart {lo : Nat} : ∀ (names : List (Str × NameKind)) (n : Nat) (acc : List (Str × Addr)), lo ≤ n → (∀ z ∈ acc, lo ≤ z.2 ∧ z.2 < n) → (acc.map (·.2)).Nodup → ((cellsFrom n names acc).map (·.2)).Nodup ∧ ∀ z ∈ cellsFrom n names acc, lo ≤ z.2
  | [], n, acc, hlo, h1, h2 => ⟨h2, fun z hz => (h1 z hz).1⟩
  | (y, k) :: r, n, acc, hlo, h1, h2 => by
    unfold cellsFrom
    split
    · refine cellsFrom_apart r (n + 1) ((y, n) :: acc) (by omega) (fun z hz => ?_) ?_
      · rcases List.mem_cons.mp hz with rfl | hz
        · exact ⟨hlo, Nat.lt_succ_self _⟩
        · exact ⟨(h1 z hz).1, Nat.lt_succ_of_lt (h1 z hz).2⟩
      · rw [List.map_cons, List.nodup_cons]
        refine ⟨fun hm => ?_, h2⟩
        obtain ⟨z, hz, e⟩ := List.mem_map.mp hm
        have := (h1 z hz).2
        rw [e] at this
        exact Nat.lt_irrefl _ this
    · exact cellsFrom_apart r n acc hlo h1 h2
theorem cellsAre_addr {cm : Str → Option Value} : ∀ {cl : List (Str × Addr)} {cells : List (Addr × Obj)}, CellsAre cm cl cells → cells.map (·.1) = cl.map (·.2)
  | _, _, .nil => rfl
  | _, _, .cons _ r => by rw [List.map_cons, List.map_cons, cellsAre_addr r]
section
variable {V : Vl} {fz : List (Addr × Obj)} {kindOf : Str → Option NameKind}
theorem bindL_other : ∀ {ps : List Nat} {vs : List Value} {m : Str → Option Value} {x : Nat}, x < nmN → (∀ y ∈ ps, y < nmN) → x ∉ ps → bindL kindOf ((ps.map nm).zip vs) m (nm x) = m (nm x)
  | [], vs, m, x, _, _, _ => by simp [bindL]
  | p :: ps, [], m, x, _, _, _ => by simp [bindL]
  | p :: ps, v :: vs, m, x, hx, hp, h => by
    simp only [List.map_cons, List.zip_cons_cons, bindL]
    rw [bindL_other hx (fun y hy => hp y (.tail _ hy)) fun q => h (.tail _ q)]
    split
    · show (if nm x = nm p then some v else m (nm x)) = _
      rw [if_neg fun e => h (nm_inj hx (hp p (.head _)) e ▸ .head _)]
    · rfl
theorem bindL_is : ∀ {ps : List Nat} {ds : List SD} {vs : List Value} {bs : List (Nat × SD)} {m : Str → Option Value} {x : Nat} {d : SD}, bindP ps ds = some bs → VAll V fz vs ds → ps.Nodup → (∀ y ∈ ps, y < nmN) → look bs x = some d → kindOf (nm x) = some .local →
    ∃ v, bindL kindOf ((ps.map nm).zip vs) m (nm x) = some v ∧ VIn V fz v d
  | [], [], vs, bs, m, x, d, h, hv, nd, hp, hl, hk => by simp only [bindP] at h; cases h; simp [look] at hl
  | [], _ :: _, _, _, _, _, _, h, _, _, _, _, _ => by simp [bindP] at h
  | _ :: _, [], _, _, _, _, _, h, _, _, _, _, _ => by simp [bindP] at h
  | p :: ps, e :: ds, vs, bs, m, x, d, h, hv, nd, hp, hl, hk => by
    simp only [bindP] at h
    split at h
    · rename_i r hr
      cases h
      cases hv with
      | @cons v vs _ _ h1 h2 =>
        obtain ⟨n1, n2⟩ := List.nodup_cons.mp nd
        simp only [look] at hl
        simp only [List.map_cons, List.zip_cons_cons, bindL]
        split at hl
        · rename_i e
          have e := Nat.eq_of_beq_eq_true e
          subst e
          cases hl
          refine ⟨v, ?_, h1⟩
          rw [bindL_other (hp p (.head _)) (fun y hy => hp y (.tail _ hy)) n1, if_pos hk, if_pos rfl]
        · exact bindL_is hr h2 n2 (fun y hy => hp y (.tail _ hy)) hl hk
    · cases h
theorem bindC_other : ∀ {ps : List Nat} {vs : List Value} {m : Str → Option Value} {x : Nat}, x < nmN → (∀ y ∈ ps, y < nmN) → x ∉ ps → bindC kindOf ((ps.map nm).zip vs) m (nm x) = m (nm x)
  | [], vs, m, x, _, _, _ => by simp [bindC]
  | p :: ps, [], m, x, _, _, _ => by simp [bindC]
  | p :: ps, v :: vs, m, x, hx, hp, h => by
    simp only [List.map_cons, List.zip_cons_cons, bindC]
    rw [bindC_other hx (fun y hy => hp y (.tail _ hy)) fun q => h (.tail _ q)]
    split
    · rfl
    · show (if nm x = nm p then some v else m (nm x)) = _
      rw [if_neg fun e => h (nm_inj hx (hp p (.head _)) e ▸ .head _)]
theorem bindC_is : ∀ {ps : List Nat} {ds : List SD} {vs : List Value} {bs : List (Nat × SD)} {m : Str → Option Value} {x : Nat} {d : SD}, bindP ps ds = some bs → VAll V fz vs ds → ps.Nodup → (∀ y ∈ ps, y < nmN) → look bs x = some d → kindOf (nm x) = some .cell →
    ∃ v, bindC kindOf ((ps.map nm).zip vs) m (nm x) = some v ∧ VIn V fz v d
  | [], [], vs, bs, m, x, d, h, hv, nd, hp, hl, hk => by simp only [bindP] at h; cases h; simp [look] at hl
  | [], _ :: _, _, _, _, _, _, h, _, _, _, _, _ => by simp [bindP] at h
  | _ :: _, [], _, _, _, _, _, h, _, _, _, _, _ => by simp [bindP] at h
  | p :: ps, e :: ds, vs, bs, m, x, d, h, hv, nd, hp, hl, hk => by
    simp only [bindP] at h
    split at h
    · rename_i r hr
      cases h
      cases hv with
      | @cons v vs _ _ h1 h2 =>
        obtain ⟨n1, n2⟩ := List.nodup_cons.mp nd
        simp only [look] at hl
        simp only [List.map_cons, List.zip_cons_cons, bindC]
        split at hl
        · rename_i e
          have e := Nat.eq_of_beq_eq_true e
          subst e
          cases hl
          refine ⟨v, ?_, h1⟩
          rw [bindC_other (hp p (.head _)) (fun y hy => hp y (.tail _ hy)) n1, if_neg (by rw [hk]; decide), if_pos rfl]
        · exact bindC_is hr h2 n2 (fun y hy => hp y (.tail _ hy)) hl hk
    · cases h

/- the cells of a call, as the relation has them -/
theorem cellR_of {env : Env} {cm : Str → Option Value} {f : Nat → Option SD} (hck : ∀ x d, f x = some d → env.kindOf (nm x) = some .cell → ∃ v, cm (nm x) = some v ∧ VIn V fz v d) :
    ∀ {cs : List Nat} {cl : List (Str × Addr)} {cells : List (Addr × Obj)}, CellsAre cm cl cells → cl.map (·.1) = cs.map nm → (∀ x ∈ cs, env.kindOf (nm x) = some .cell) → (∀ z ∈ cl, env.cells.lookup z.1 = some z.2) → CellR V fz env (cs.map fun x => (x, f x)) cells
  | [], _, _, .nil, _, _, _ => .nil
  | [], _, _, .cons _ _, h, _, _ => by simp at h
  | _ :: _, _, _, .nil, h, _, _ => by simp at h
  | x :: cs, _, _, .cons (n := nn) (c := c) (o := o) (cs := cl) h0 r, h, hk, hl => by
    simp only [List.map_cons, List.cons.injEq] at h
    obtain ⟨e1, e2⟩ := h
    have hkx := hk x (.head _)
    have hlx := hl (nn, c) (.head _)
    simp only [e1] at hlx
    rw [e1] at h0
    refine .cons hlx hkx h0 (fun d e => ?_) (cellR_of hck r e2 (fun y hy => hk y (.tail _ hy)) fun z hz => hl z (.tail _ hz))
    exact hck x d e hkx
end

section
variable {prog : Program} {w : World} {V : Vl} {K : Frag} {T : Tb} {p : Program} {loose : List Str} {mean : ExcName → Option Value} {mg mb : Str → Option Value} {n : Nat}
theorem fn_sound {a : Addr} {ps cs : List Nat} {body : List S} {name qual : Str} {params : Arguments} {scope : Scope} {dV kV doc pm : Value} {an : Option Addr} {cdv ct : Value} (D : FnFd K a ps cs body name qual params scope dV kV doc pm an cdv ct)
    (SO : StmtOK prog w V K T p loose mean mg mb n) {ds : List SD} {bs : List (Nat × SD)} {d : SD} {gg : G} (hb : bindP ps ds = some bs) (hs : (evs T n).s { l := bs.filter fun p => !(cs.any (Nat.beq p.1)), c := cs.map fun x => (x, look bs x), o := [], v := .none } body = some (.rt d, gg))
    {F : Fx} {A : Around} {fz : List (Addr × Obj)} {vs : List Value} (C : FOk K p loose mean mg mb F A (n + 1)) (hv : VAll V fz vs ds) : EvV prog w V F A (call (.ref a) vs) fz d := by
  intro fz₁ s Q hsub H k
  obtain ⟨A₀, base, outer, env, B, hA, hf, hke⟩ := C.below
  obtain ⟨oc, od, osl, ho⟩ := D.obj
  have hlen : vs.length = ps.length := by rw [hv.length, bindP_len hb]
  have hkinds : ∀ x ∈ ps, (if cs.any (Nat.beq x) then kindIs scope (nm x) .cell else kindIs scope (nm x) .local) = true := List.all_eq_true.mp D.kinds
  have hck : ∀ x ∈ cs, scope.names.lookup (nm x) = some .cell := fun x hx => kindIs_is (List.all_eq_true.mp D.ckind x hx)
  have hv := hv.mono hsub
  refine wpAny_call (code_defC B H.fr C.kin H.nw C.top hA hf hke ho D.code (by have := C.depth; omega) (D.bind s vs hlen) ?_ (by rw [D.cells]; exact D.cnd) ?_ D.co D.gen D.k)
  · rw [List.all_eq_true]
    intro z hz
    obtain ⟨x, hx, e⟩ := List.mem_map.mp (List.of_mem_zip hz).1
    have := hkinds x hx
    rw [← e, Bool.or_eq_true]
    split at this
    · exact .inr (by rw [kindIs_is this]; rfl)
    · exact .inl (by rw [kindIs_is this]; rfl)
  · intro g L' h₁ tk cells FG F' N' Y B' X' T' lt
    let R : Rc := ⟨g, envOfC qual scope L' a cdv, F.keep, F.s₀⟩
    let m' : Str → Option Value := bindL (envOfC qual scope L' a cdv).kindOf ((ps.map nm).zip vs) fun _ => none
    have hperm : (fz₁ ++ (cells ++ ([] ++ F.keep))).Perm (cells ++ (fz₁ ++ F.keep)) := by
      rw [List.nil_append, ← List.append_assoc, ← List.append_assoc]
      exact List.perm_append_comm.append_right _
    have ndc : ((cellsFrom (L' + 1) scope.names []).map (·.1)).Nodup := by
      rw [cellsFrom_names scope.names (L' + 1) 0 [] [] rfl, D.cells]
      exact D.cnd
    obtain ⟨hh, tk0, es⟩ := H.sh
    have hdisj : ((cells ++ (fz₁ ++ F.keep)).map (·.1)).Nodup := by
      obtain ⟨q1, q2⟩ := cellsFrom_apart (lo := L' + 1) scope.names (L' + 1) [] (Nat.le_refl _) (fun z hz => by cases hz) List.nodup_nil
      rw [List.map_append, List.nodup_append]
      refine ⟨by rw [cellsAre_addr Y]; exact q1, H.nd, fun x hx y hy e => ?_⟩
      rw [cellsAre_addr Y] at hx
      obtain ⟨z, hz, ez⟩ := List.mem_map.mp hx
      obtain ⟨u, hu, eu⟩ := List.mem_map.mp hy
      have h1 := q2 z hz
      have h2 := lt u hu
      rw [ez, e] at h1
      rw [eu] at h2
      exact Nat.lt_irrefl _ (Nat.lt_of_lt_of_le (Nat.lt_of_lt_of_le h2 (Nat.le_succ _)) h1)
    have HP : Hp (R.fx m' cells []) fz₁ { s with heap := h₁, toks := tk } :=
      ⟨F', fun q hq => N' q (hperm.mem_iff.mp hq), (hperm.map _).nodup_iff.mpr hdisj, h₁, tk, by rw [es]; rfl⟩
    have HS : SR R V { l := bs.filter fun p => !(cs.any (Nat.beq p.1)), c := cs.map fun x => (x, look bs x), o := [], v := .none } m' fz₁ cells [] { s with heap := h₁, toks := tk } := by
      refine ⟨HP, fun x d hx => ?_, ?_, .nil⟩
      · obtain ⟨h1, h2⟩ := look_filter (P := fun x => !(cs.any (Nat.beq x))) hx
        have hm := bindP_keys hb h1
        refine ⟨D.lt x hm, ?_⟩
        have hk := hkinds x hm
        simp only [Bool.not_eq_true'] at h2
        rw [h2] at hk
        simp only [Bool.false_eq_true, if_false] at hk
        exact bindL_is hb hv D.nd D.lt h1 (kindIs_is hk)
      · refine cellR_of (cm := bindC (envOfC qual scope L' a cdv).kindOf ((ps.map nm).zip vs) fun _ => none) (f := fun x => look bs x) (fun x d hx hk => ?_) Y ?_ (fun x hx => hck x hx) fun z hz => ?_
        · exact bindC_is hb hv D.nd D.lt hx hk
        · rw [cellsFrom_names scope.names (L' + 1) 0 [] [] rfl, D.cells]
        · exact lookup_of_mem_nodup ndc hz
    have CO : FOk K p loose mean mg mb (R.fx m' cells []) (A.deeper (envOfC qual scope L' a cdv)) n :=
      ⟨⟨A, base, env :: outer, envOfC qual scope L' a cdv, B', by show A.frames.map _ = _; rw [hA]; rfl, rfl, D.k⟩, X', T', C.handled, C.guards, by show A.depth + 1 + n < _; have := C.depth; omega, by show A.units + 3 + 8 * n + 100 < _; have := C.units; omega⟩
    have RO : RcOk R := ⟨⟨rfl, rfl, D.k⟩, fun y hy => cellsFrom_some _ _ _ (.inl hy)⟩
    refine wpAny_mono (SO _ _ _ _ hs R _ m' fz₁ cells [] _ (fun fl s' => LeaveK F.h₀ F.L F.m g _ (match fl with | .ret v => v | _ => .none) s') CO RO D.chk HS ?_) (fun _ _ x => x) fun _ _ x => x.elim
    intro v m₂ fz₂ cells₂ s₂ h2 H₂ hvd
    refine leaveK_ (news' := fz₂ ++ F.keep) H₂.fr (fun q hq => H₂.nw q ?_) fun F₃ N₃ => ?_
    · rcases List.mem_append.mp hq with hq | hq
      · exact List.mem_append_left _ hq
      · exact List.mem_append_right _ (List.mem_append_right _ hq)
    · obtain ⟨h2', tk2, es2⟩ := H₂.sh
      refine k v s₂ fz₂ h2 ⟨F₃, N₃, ?_, h2', tk2, es2⟩ hvd
      have nd := H₂.nd
      refine List.Nodup.sublist ?_ nd
      refine List.Sublist.map _ (List.Sublist.append_left ?_ _)
      exact List.sublist_append_right cells₂ _
end
end RegLaw

namespace RegLaw
open PySem PySem.Calls PySem.W PyProof.Rows
structure TbOk (K : Frag) (T : Tb) : Prop where
  fn : ∀ f fd, T.fn f = some fd → ∃ a name qual params scope dV kV doc pm an cdv ct, FnName K f a ∧ FnFd K a fd.ps fd.cs fd.body name qual params scope dV kV doc pm an cdv ct
section
variable {prog : Program} {w : World} {V : Vl} {K : Frag} {T : Tb} {p : Program} {loose : List Str} {mean : ExcName → Option Value} {mg mb : Str → Option Value}
theorem all_sound (hV : V.Ok) (KK : KOk K w T) (TT : TbOk K T) : ∀ n, ExprOK prog w V K T p loose mean mg mb n ∧ StmtOK prog w V K T p loose mean mg mb n ∧ CallOK prog w V K p loose mean mg mb (evs T n).c n
  | 0 => ⟨.zero, .zero, fun f ds d h => by simp [evs] at h⟩
  | n + 1 => by
    obtain ⟨E, SO, CO⟩ := all_sound hV KK TT n
    refine ⟨E.succ hV KK CO, SO.succ hV KK E, fun f ds d h => ?_⟩
    simp only [evs, stepC] at h
    split at h
    · rename_i fd hfd
      split at h
      · rename_i bs hbs
        split at h
        · rename_i d' gg hs
          cases h
          obtain ⟨a, name, qual, params, scope, dV, kV, doc, pm, an, cdv, ct, N, D⟩ := TT.fn f fd hfd
          exact ⟨a, N, fun F A fz vs C hv => fn_sound D SO hbs hs C hv⟩
        · cases h
      · cases h
    · cases h
end
end RegLaw

namespace RegLaw
open PySem PySem.Calls PySem.W PyProof.Rows

structure FnOk (K : Frag) (f : Nat) (fd : FD) : Prop where
  ex : ∃ a name qual params scope dV kV doc pm an cdv ct, FnName K f a ∧ FnFd K a fd.ps fd.cs fd.body name qual params scope dV kV doc pm an cdv ct
theorem FnOk.mk' {K : Frag} {f : Nat} {fd : FD} (a : Addr) {name qual : Str} {params : Arguments} {scope : Scope} {dV kV doc pm : Value} {an : Option Addr} {cdv ct oc : Value} {od : Option Addr} {osl : Array (Option Value)}
    (obj : K.lookup a = some ⟨oc, od, .func (fnOf name qual params (spys fd.body) scope dV kV doc pm an cdv ct), osl⟩) (N : FnName K f a)
    (code : codeIn K cdv qual = true)
    (bind : ∀ (s : Shared) (vs : List Value), vs.length = fd.ps.length → BindsTo s (fnOf name qual params (spys fd.body) scope dV kV doc pm an cdv ct) ⟨vs, []⟩ ((fd.ps.map nm).zip vs))
    (nd : fd.ps.Nodup) (lt : ∀ x ∈ fd.ps, x < nmN)
    (kinds : (fd.ps.all fun x => if fd.cs.any (Nat.beq x) then kindIs scope (nm x) .cell else kindIs scope (nm x) .local) = true)
    (cells : (cellsFrom 0 scope.names []).map (·.1) = fd.cs.map nm) (ckind : (fd.cs.all fun x => kindIs scope (nm x) .cell) = true) (cnd : (fd.cs.map nm).Nodup)
    (chk : chkSs scope fd.body = true) (k : scope.kind = .function) (co : scope.isCoroutine = false) (gen : scope.isGenerator = false) : FnOk K f fd :=
  ⟨a, _, _, _, _, _, _, _, _, _, _, _, N, ⟨⟨_, _, _, obj⟩, code, bind, nd, lt, kinds, cells, ckind, cnd, chk, k, co, gen⟩⟩
theorem len0 {P : List Value → Prop} (k : P []) (vs : List Value) (h : vs.length = 0) : P vs := List.length_eq_zero_iff.mp h ▸ k
theorem lenS {P : List Value → Prop} {n : Nat} (k : ∀ a vs, vs.length = n → P (a :: vs)) (vs : List Value) (h : vs.length = n + 1) : P vs := by
  cases vs with
  | nil => cases h
  | cons a vs => exact k a vs (Nat.succ.inj h)
theorem len1 {P : List Value → Prop} (k : ∀ a, P [a]) (vs : List Value) (h : vs.length = 1) : P vs := lenS (fun a => len0 (P := fun vs => P (a :: vs)) (k a)) vs h
theorem len2 {P : List Value → Prop} (k : ∀ a b, P [a, b]) (vs : List Value) (h : vs.length = 2) : P vs := lenS (fun a => len1 (P := fun vs => P (a :: vs)) (k a)) vs h
theorem len3 {P : List Value → Prop} (k : ∀ a b c, P [a, b, c]) (vs : List Value) (h : vs.length = 3) : P vs := lenS (fun a => len2 (P := fun vs => P (a :: vs)) (k a)) vs h
theorem len4 {P : List Value → Prop} (k : ∀ a b c d, P [a, b, c, d]) (vs : List Value) (h : vs.length = 4) : P vs := lenS (fun a => len3 (P := fun vs => P (a :: vs)) (k a)) vs h
theorem len5 {P : List Value → Prop} (k : ∀ a b c d e, P [a, b, c, d, e]) (vs : List Value) (h : vs.length = 5) : P vs := lenS (fun a => len4 (P := fun vs => P (a :: vs)) (k a)) vs h
theorem len6 {P : List Value → Prop} (k : ∀ a b c d e f, P [a, b, c, d, e, f]) (vs : List Value) (h : vs.length = 6) : P vs := lenS (fun a => len5 (P := fun vs => P (a :: vs)) (k a)) vs h
section
variable (P : PySem.Params)
theorem fo_0 : FnOk (hd.heap_39 P) 0 f_reads_of := by
  refine' FnOk.mk' 43 (by rfl) ⟨_, _, _⟩ _ _ _ _ _ _ _ _ _ _ _ _
  · kernel_rfl
  · kernel_rfl
  · kernel_rfl
  · kernel_rfl
  · exact fun s => len1 fun a => .of_eq rfl
  · decide
  · decide
  · decide +kernel
  · kernel_rfl
  · kernel_rfl
  · decide +kernel
  · decide +kernel
  · rfl
  · rfl
  · rfl
theorem fo_1 : FnOk (hd.heap_39 P) 1 f_writes_of := by
  refine' FnOk.mk' 50 (by rfl) ⟨_, _, _⟩ _ _ _ _ _ _ _ _ _ _ _ _
  · kernel_rfl
  · kernel_rfl
  · kernel_rfl
  · kernel_rfl
  · exact fun s => len1 fun a => .of_eq rfl
  · decide
  · decide
  · decide +kernel
  · kernel_rfl
  · kernel_rfl
  · decide +kernel
  · decide +kernel
  · rfl
  · rfl
  · rfl
theorem fo_2 : FnOk (hd.heap_39 P) 2 f_jumps_of := by
  refine' FnOk.mk' 55 (by rfl) ⟨_, _, _⟩ _ _ _ _ _ _ _ _ _ _ _ _
  · kernel_rfl
  · kernel_rfl
  · kernel_rfl
  · kernel_rfl
  · exact fun s => len1 fun a => .of_eq rfl
  · decide
  · decide
  · decide +kernel
  · kernel_rfl
  · kernel_rfl
  · decide +kernel
  · decide +kernel
  · rfl
  · rfl
  · rfl
theorem fo_3 : FnOk (hd.heap_39 P) 3 f_goes_on := by
  refine' FnOk.mk' 62 (by rfl) ⟨_, _, _⟩ _ _ _ _ _ _ _ _ _ _ _ _
  · kernel_rfl
  · kernel_rfl
  · kernel_rfl
  · kernel_rfl
  · exact fun s => len1 fun a => .of_eq rfl
  · decide
  · decide
  · decide +kernel
  · kernel_rfl
  · kernel_rfl
  · decide +kernel
  · decide +kernel
  · rfl
  · rfl
  · rfl
theorem fo_4 : FnOk (hd.heap_39 P) 4 f_with_jumps := by
  refine' FnOk.mk' 67 (by rfl) ⟨_, _, _⟩ _ _ _ _ _ _ _ _ _ _ _ _
  · kernel_rfl
  · kernel_rfl
  · kernel_rfl
  · kernel_rfl
  · exact fun s => len2 fun a b => .of_eq rfl
  · decide
  · decide
  · decide +kernel
  · kernel_rfl
  · kernel_rfl
  · decide +kernel
  · decide +kernel
  · rfl
  · rfl
  · rfl
theorem fo_5 : FnOk (hd.heap_39 P) 5 f_read_part := by
  refine' FnOk.mk' 72 (by rfl) ⟨_, _, _⟩ _ _ _ _ _ _ _ _ _ _ _ _
  · kernel_rfl
  · kernel_rfl
  · kernel_rfl
  · kernel_rfl
  · exact fun s => len3 fun a b c => .of_eq rfl
  · decide
  · decide
  · decide +kernel
  · kernel_rfl
  · kernel_rfl
  · decide +kernel
  · decide +kernel
  · rfl
  · rfl
  · rfl
theorem fo_6 : FnOk (hd.heap_39 P) 6 f_with_reads := by
  refine' FnOk.mk' 79 (by rfl) ⟨_, _, _⟩ _ _ _ _ _ _ _ _ _ _ _ _
  · kernel_rfl
  · kernel_rfl
  · kernel_rfl
  · kernel_rfl
  · exact fun s => len2 fun a b => .of_eq rfl
  · decide
  · decide
  · decide +kernel
  · kernel_rfl
  · kernel_rfl
  · decide +kernel
  · decide +kernel
  · rfl
  · rfl
  · rfl
theorem fo_7 : FnOk (hd.heap_39 P) 7 f_with_write := by
  refine' FnOk.mk' 86 (by rfl) ⟨_, _, _⟩ _ _ _ _ _ _ _ _ _ _ _ _
  · kernel_rfl
  · kernel_rfl
  · kernel_rfl
  · kernel_rfl
  · exact fun s => len2 fun a b => .of_eq rfl
  · decide
  · decide
  · decide +kernel
  · kernel_rfl
  · kernel_rfl
  · decide +kernel
  · decide +kernel
  · rfl
  · rfl
  · rfl
theorem fo_8 : FnOk (hd.heap_39 P) 8 f_with_registers := by
  refine' FnOk.mk' 93 (by rfl) ⟨_, _, _⟩ _ _ _ _ _ _ _ _ _ _ _ _
  · kernel_rfl
  · kernel_rfl
  · kernel_rfl
  · kernel_rfl
  · exact fun s => len2 fun a b => .of_eq rfl
  · decide
  · decide
  · decide +kernel
  · kernel_rfl
  · kernel_rfl
  · decide +kernel
  · decide +kernel
  · rfl
  · rfl
  · rfl
theorem fo_9 : FnOk (hd.heap_39 P) 9 f_show_part := by
  refine' FnOk.mk' 98 (by rfl) ⟨_, _, _⟩ _ _ _ _ _ _ _ _ _ _ _ _
  · kernel_rfl
  · kernel_rfl
  · kernel_rfl
  · kernel_rfl
  · exact fun s => len2 fun a b => .of_eq rfl
  · decide
  · decide
  · decide +kernel
  · kernel_rfl
  · kernel_rfl
  · decide +kernel
  · decide +kernel
  · rfl
  · rfl
  · rfl
theorem fo_10 : FnOk (hd.heap_39 P) 10 f_show_op := by
  refine' FnOk.mk' 105 (by rfl) ⟨_, _, _⟩ _ _ _ _ _ _ _ _ _ _ _ _
  · kernel_rfl
  · kernel_rfl
  · kernel_rfl
  · kernel_rfl
  · exact fun s => len1 fun a => .of_eq rfl
  · decide
  · decide
  · decide +kernel
  · kernel_rfl
  · kernel_rfl
  · decide +kernel
  · decide +kernel
  · rfl
  · rfl
  · rfl
theorem fo_12 : FnOk (hd.heap_39 P) 12 f_law_words := by
  refine' FnOk.mk' 119 (by rfl) ⟨_, _, _⟩ _ _ _ _ _ _ _ _ _ _ _ _
  · kernel_rfl
  · kernel_rfl
  · kernel_rfl
  · kernel_rfl
  · exact fun s => len0 (.of_eq rfl)
  · decide
  · decide
  · decide +kernel
  · kernel_rfl
  · kernel_rfl
  · decide +kernel
  · decide +kernel
  · rfl
  · rfl
  · rfl
theorem fo_14 : FnOk (hd.heap_39 P) 14 f_law_say := by
  refine' FnOk.mk' 131 (by rfl) ⟨_, _, _⟩ _ _ _ _ _ _ _ _ _ _ _ _
  · kernel_rfl
  · kernel_rfl
  · kernel_rfl
  · kernel_rfl
  · exact fun s => len1 fun a => .of_eq rfl
  · decide
  · decide
  · decide +kernel
  · kernel_rfl
  · kernel_rfl
  · decide +kernel
  · decide +kernel
  · rfl
  · rfl
  · rfl
theorem fo_15 : FnOk (hd.heap_39 P) 15 f_law_two := by
  refine' FnOk.mk' 136 (by rfl) ⟨_, _, _⟩ _ _ _ _ _ _ _ _ _ _ _ _
  · kernel_rfl
  · kernel_rfl
  · kernel_rfl
  · kernel_rfl
  · exact fun s => len3 fun a b c => .of_eq rfl
  · decide
  · decide
  · decide +kernel
  · kernel_rfl
  · kernel_rfl
  · decide +kernel
  · decide +kernel
  · rfl
  · rfl
  · rfl
theorem fo_16 : FnOk (hd.heap_39 P) 16 f_law_list := by
  refine' FnOk.mk' 141 (by rfl) ⟨_, _, _⟩ _ _ _ _ _ _ _ _ _ _ _ _
  · kernel_rfl
  · kernel_rfl
  · kernel_rfl
  · kernel_rfl
  · exact fun s => len2 fun a b => .of_eq rfl
  · decide
  · decide
  · decide +kernel
  · kernel_rfl
  · kernel_rfl
  · decide +kernel
  · decide +kernel
  · rfl
  · rfl
  · rfl
theorem fo_17 : FnOk (hd.heap_39 P) 17 f_law_parts := by
  refine' FnOk.mk' 146 (by rfl) ⟨_, _, _⟩ _ _ _ _ _ _ _ _ _ _ _ _
  · kernel_rfl
  · kernel_rfl
  · kernel_rfl
  · kernel_rfl
  · exact fun s => len4 fun a b c d => .of_eq rfl
  · decide
  · decide
  · decide +kernel
  · kernel_rfl
  · kernel_rfl
  · decide +kernel
  · decide +kernel
  · rfl
  · rfl
  · rfl
theorem fo_18 : FnOk (hd.heap_39 P) 18 f_law_turned_right := by
  refine' FnOk.mk' 151 (by rfl) ⟨_, _, _⟩ _ _ _ _ _ _ _ _ _ _ _ _
  · kernel_rfl
  · kernel_rfl
  · kernel_rfl
  · kernel_rfl
  · exact fun s => len6 fun a b c d e f => .of_eq rfl
  · decide
  · decide
  · decide +kernel
  · kernel_rfl
  · kernel_rfl
  · decide +kernel
  · decide +kernel
  · rfl
  · rfl
  · rfl
end
end RegLaw

namespace RegLaw
open PySem PySem.Calls PySem.W PyProof.Rows

theorem lookStr_mem : ∀ {T : List (List Nat × List Nat)} {l r : List Nat}, lookStr T l = some r → (l, r) ∈ T
  | [], _, _, h => by simp [lookStr] at h
  | p :: T, l, r, h => by
    simp only [lookStr] at h
    split at h
    · rename_i e
      cases h
      rw [← lbeq_is.mp e]
      exact .head _
    · exact .tail _ (lookStr_mem h)
noncomputable def shapeAt (K : Frag) (a : Addr) (p : List Nat × List Nat) : Bool := match nsIn K a ⟨p.1.toArray⟩ with
  | some (some (.str y _)) => lbeq y.cps.toList p.2
  | _ => false
theorem shapeAt_is {K : Frag} {a : Addr} {p : List Nat × List Nat} (h : shapeAt K a p = true) : ∃ t, nsIn K a ⟨p.1.toArray⟩ = some (some (.str ⟨p.2.toArray⟩ t)) := by
  unfold shapeAt at h
  split at h
  · rename_i y t e
    refine ⟨t, ?_⟩
    rw [e, ← lbeq_is.mp h]
  · cases h
theorem shapes_all (P : PySem.Params) : (shapesT.all (shapeAt (hd.heap_39 P) 15)) = true := by kernel_rfl
theorem tb_ok (P : PySem.Params) : TbOk (hd.heap_39 P) tb := by
  refine ⟨fun f fd h => ?_⟩
  have h : tab f = some fd := h
  unfold tab at h
  split at h <;> first | (cases h; done) | (cases h; first | exact (fo_0 P).ex | exact (fo_1 P).ex | exact (fo_2 P).ex | exact (fo_3 P).ex | exact (fo_4 P).ex | exact (fo_5 P).ex | exact (fo_6 P).ex | exact (fo_7 P).ex | exact (fo_8 P).ex | exact (fo_9 P).ex | exact (fo_10 P).ex | exact (fo_12 P).ex | exact (fo_14 P).ex | exact (fo_15 P).ex | exact (fo_16 P).ex | exact (fo_17 P).ex | exact (fo_18 P).ex)
theorem k_ok (w : World) : KOk (hd.heap_39 w.params) w tb where
  len := by kernel_rfl
  str := by kernel_rfl
  repr := by kernel_rfl
  tuple := by kernel_rfl
  range := by kernel_rfl
  isinstance := by kernel_rfl
  shapes := by
    refine ⟨15, _, _, by kernel_rfl, by rfl, ?_, fun l r h => ?_⟩
    · simp only [KeysLit]
      repeat' constructor
    · exact shapeAt_is (p := (l, r)) (List.all_eq_true.mp (shapes_all w.params) (l, r) (lookStr_mem h))
  leaving := by
    refine ⟨17, _, _, _, _, by kernel_rfl, by rfl, ?_⟩
    exact .cons _ _ (.cons _ _ (.cons _ _ (.cons _ _ (.cons _ _ .nil))))
end RegLaw

namespace RegLaw
open PySem PySem.Calls PySem.W PyProof.Rows

/- a list has no keys -/
theorem no_keys {prog : Program} {w : World} {A : Around} {E : Value → Shared → Prop} {s : Shared} {a : Addr} {xs : Array Value} {k : Nat} {Q : Option Value → Shared → Prop}
    (hx : s.heap.get? a = some { cls := .type "list", data := .seq xs k }) (hA : A.handled = none)
    (h : ∀ h' tk, (∀ b o, s.heap.get? b = some o → h'.get? b = some o) → Q none { s with heap := h', toks := tk }) : wpAny (model prog w) A (getAttr? (.ref a) "keys") Q E s := by
  obtain ⟨hp, g, d, tk, os⟩ := s
  have hT : ∀ tk', (⟨hp, g, d, tk', os⟩ : Shared).TypeIs (.ref a) "list" := fun _ => ⟨_, hx, rfl⟩
  have f1 := sub_AttributeError
  have f3 := PySem.F.slot_list_getattribute.lookup
  have f4 := PySem.F.slot_list_getattribute.bind (.ref a)
  have f5 := am_list_getattr_none
  have hmiss : typeLookup (.type "list") "keys" = pure none := am_miss_of_fast (by decide +kernel)
  unfold getAttr? getAttrBy? getAttrBy
  repeat (any_goals (first | assumption | exact hT _ | ((with_reducible show wpAny _ _ (call (Value.builtin "list.__getattribute__") _ _) _ _ _); refine call_meets PySem.F.slot_list_getattribute (hT _) am_entry_list_getattribute (PySem.F.args_list_getattribute_2 _ _) (meets_getattribute_miss_list a xs k #[] "keys" _ hmiss (by decide +kernel) (by decide)) ⟨hx, hA, fun h' tk' e hx' => ?_⟩) | wp_step))
  obtain ⟨t', u', he⟩ := hx'.there
  show wpAny _ _ (getattributeRaised _ _ _ _ _ _ _) _ _ _
  unfold getattributeRaised
  repeat (any_goals (first | assumption | wp_step))
  all_goals exact h _ _ hx'.keeps

theorem plain_upd_loop : plainId "dict.update.loop" = true := by decide +kernel
theorem entry_upd_loop : entryFor table "dict.update.loop" = some Builtin.«dict.update.loop» := entryFor_of_fast (by kernel_rfl)

noncomputable def PairAt (h : Heap) (v : Value) (p : Int × Value) (D I : Addr) : Prop := ∃ a t, v = .ref a ∧ a ≠ D ∧ a ≠ I ∧ IsTup h a #[.int p.1 t, p.2]
section
variable {prog : Program} {w : World} {A : Around}
theorem upd_loop {I l D : Addr} {items : Array Value} {prs : List (Int × Value)} {R : Result → Shared → Prop} (hh : A.handled = none) (hlI : l ≠ I) (hDI : D ≠ I) (hDl : D ≠ l) (hsz : items.size ≤ 1000) (hlen : prs.length = items.size) :
    ∀ (k i : Nat) (s : Shared) (kvs : List (Int × Value)), items.size - i = k → i ≤ items.size → kvs.length ≤ i → s.heap.IsListIter I l i → s.heap.IsList l items → s.heap.DictOf (PySem.intKind prog w) D kvs →
      (∀ (j : Nat) v p, items[j]? = some v → prs[j]? = some p → PairAt s.heap v p D I) →
      (∀ h' tk, h'.DictOf (PySem.intKind prog w) D ((prs.drop i).foldl (fun c p => stored c p.1 p.2) kvs) → (∀ b o, b ≠ D → b ≠ I → s.heap.get? b = some o → h'.get? b = some o) → R (.ok (.ret .none)) { s with heap := h', toks := tk }) →
      codeAny (model prog w) A (.builtin "dict.update.loop" ⟨[.ref D, .ref I, rawInt (i : Int), .none], []⟩) R s := by
  have W := Walks.list (prog := prog) (w := w) (A := A.in1) hh I l hlI items
  intro k
  induction k with
  | zero =>
    intro i s kvs hk hi hkv hit hl hd hp hR
    have hin : i = items.size := by omega
    subst hin
    refine codeAny_builtin entry_upd_loop ?_
    rw [Around.under_plainId plain_upd_loop _]
    show wpAny _ A.in1 (pyNext (.ref I) >>= _) _ _ s
    refine wpAny_bind (W.done s _ _ ⟨hit, hl⟩ fun h' tk hm => ?_)
    show wpAny _ A.in1 (Builtin.Dict.addKeywords D [] >>= _) _ _ _
    refine wpAny_bind (wpAny_pure (wpAny_pure (hR h' tk ?_ fun b o hb hbI e => hm b o (by simpa using hbI) e)))
    rw [List.drop_of_length_le (by omega)]
    exact hd.extBut (fun b o hb e => hm b o (by simpa using hb) e) hDI
  | succ k ih =>
    intro i s kvs hk hi hkv hit hl hd hp hR
    have hlt : i < items.size := by omega
    refine codeAny_builtin entry_upd_loop ?_
    rw [Around.under_plainId plain_upd_loop _]
    show wpAny _ A.in1 (pyNext (.ref I) >>= _) _ _ s
    refine wpAny_bind (W.item i s _ _ hlt ⟨hit, hl⟩ fun v h' tk hP hst' hm => ?_)
    have hpi : i < prs.length := by omega
    obtain ⟨a, t, rfl, haD, haI, ht⟩ := hp i v prs[i] hP (by simp [hpi])
    have ht' : IsTup h' a #[.int prs[i].1 t, prs[i].2] := let ⟨o, e, c⟩ := ht; ⟨o, hm a o (by simpa using haI) e, c⟩
    have hd' : h'.DictOf (PySem.intKind prog w) D kvs := hd.extBut (fun b o hb e => hm b o (by simpa using hb) e) hDI
    obtain ⟨ot, hot, hct, nt, hdt⟩ := ht'
    show wpAny _ A.in1 (holding [Value.ref a] _ >>= _) _ _ _
    refine wpAny_bind (wpAny_holding ?_)
    refine wpAny_bind (wpAny_tryCatch ?_)
    unfold Builtin.Dict.pairItems
    refine wpAny_bind (wpAny_typeOf (T := "tuple") ⟨ot, hot, hct⟩ ?_)
    rw [if_pos (by decide)]
    refine wpAny_bind (wpAny_seqItems hot hdt (wpAny_pure ?_))
    show wpAny _ A.in1 (holding [_, _] (dictSet D _ _)) _ _ _
    refine wpAny_holding (wpAny_dictSet_pairs (s := { s with heap := h', toks := tk }) (intKind_is prog w prs[i].1 t) hd' (fun h'' hd'' hs'' => ?_) (by have := sizeLine_ge; omega))
    refine wpAny_pure ⟨plainId_quiet plain_upd_loop _, ?_⟩
    have step : ∀ b o, b ≠ D → b ≠ I → s.heap.get? b = some o → h''.get? b = some o := fun b o h1 h2 e => hs''.extBut b o h1 (hm b o (by simpa using h2) e)
    refine ih (i + 1) { s with heap := h'', toks := tk + 1 } _ (by omega) hlt ?_ (Heap.IsListIter.extBut hst'.1 hs''.extBut (Ne.symm hDI)) (Heap.IsList.extBut hst'.2 hs''.extBut (Ne.symm hDl)) hd'' ?_ ?_
    · unfold stored
      split
      · rw [List.length_map]; omega
      · rw [List.length_append]; simp; omega
    · intro j v p h1 h2
      obtain ⟨a', t', e1, e2, e3, o', q1, q2⟩ := hp j v p h1 h2
      exact ⟨a', t', e1, e2, e3, o', step _ _ e2 e3 q1, q2⟩
    · intro h3 tk3 q1 q2
      refine hR h3 tk3 ?_ fun b o h1 h2 e => q2 b o h1 h2 (step b o h1 h2 e)
      rw [List.drop_eq_getElem_cons hpi, List.foldl_cons]
      exact q1
theorem dict_pairs {E : Value → Shared → Prop} {s : Shared} {Q : Value → Shared → Prop} {l : Addr} {vs : List Value} {n : Nat} {prs : List (Int × Value)} (hh : A.handled = none) (hl : s.heap.get? l = some { cls := .type "list", data := .seq vs.toArray n }) (hsz : vs.length ≤ 1000) (hlen : prs.length = vs.length)
    (hp : ∀ (j : Nat) v p, vs[j]? = some v → prs[j]? = some p → ∃ a t, v = .ref a ∧ IsTup s.heap a #[.int p.1 t, p.2])
    (h : ∀ h' tk, h'.DictOf (PySem.intKind prog w) s.heap.objs.size (prs.foldl (fun c p => stored c p.1 p.2) []) → (∀ b o, s.heap.get? b = some o → h'.get? b = some o) → Q (.ref s.heap.objs.size) { s with heap := h', toks := tk }) :
    wpAny (model prog w) A (call (.type "dict") [.ref l]) Q E s := by
  refine callType_codes (Q₁ := fun obj s₁ => obj = .ref s.heap.objs.size ∧ s₁ = { s with heap := s.heap.push { cls := .type "dict", data := .dict #[] } }) PySem.F.kt_called_dict (PySem.F.kt_typeCall_dict_1 _) PySem.F.entry_dict_init (kt_code_dict_new _ ⟨rfl, rfl⟩) ?_
  rintro obj s₁ ⟨rfl, rfl⟩
  have hnew : (s.heap.push { cls := .type "dict", data := .dict #[] }).DictOf (PySem.intKind prog w) s.heap.objs.size [] := Heap.DictOf.new s.heap
  have hl' : (s.heap.push { cls := .type "dict", data := .dict #[] }).get? l = some { cls := .type "list", data := .seq vs.toArray n } := Heap.get?_push_of_some _ hl
  have hlD : l < s.heap.objs.size := Heap.lt_size hl
  refine ⟨hnew.typeIs, PySem.F.args_dict_init_2 _ _, ?_⟩
  unfold Builtin.«dict.__init__»
  refine wpAny_bind ?_
  unfold Builtin.Dict.selfAndRest
  refine wpAny_bind (wpAny_notOrdered_dict hnew.typeIs ?_)
  show wpAny _ _ (pure (s.heap.objs.size, [Value.ref l])) _ _ _
  refine wpAny_pure ?_
  show wpAny _ _ (Builtin.Dict.updateFrom "dict.__init__" s.heap.objs.size (.ref l) [] .none) _ _ _
  unfold Builtin.Dict.updateFrom
  refine wpAny_bind (wpAny_typeOf (T := "list") ⟨_, hl', rfl⟩ ?_)
  rw [if_pos (by decide)]
  refine wpAny_bind (no_keys hl' hh fun h₂ tk₂ k₂ => ?_)
  rw [if_pos (by rfl)]
  refine wpAny_bind (wpAny_rule ?_)
  refine wpAny_bind (wpAny_pyIter_list ⟨_, k₂ _ _ hl', rfl, n, rfl⟩ ?_)
  refine wpAny_pure ⟨plainId_quiet plain_upd_loop _, ?_⟩
  have hsz₂ : s.heap.objs.size < h₂.objs.size := by
    obtain ⟨o, _, _, ho, _⟩ := hnew
    exact Heap.lt_size (k₂ _ _ ho)
  have keepAll : ∀ b o, (s.heap.push { cls := .type "dict", data := .dict #[] }).get? b = some o → (h₂.push { cls := .type "list_iterator", data := .fields #[.ref l, .int 0 0] }).get? b = some o := fun b o e => Heap.get?_push_of_some _ (k₂ b o e)
  have keep0 : ∀ b o, s.heap.get? b = some o → (h₂.push { cls := .type "list_iterator", data := .fields #[.ref l, .int 0 0] }).get? b = some o := fun b o e => keepAll b o (Heap.get?_push_of_some _ e)
  refine upd_loop (A := A.in1) (I := h₂.objs.size) (l := l) (items := vs.toArray) (prs := prs) hh (Nat.ne_of_lt (Nat.lt_trans hlD hsz₂)) (Nat.ne_of_lt hsz₂) (Nat.ne_of_gt hlD) (by simpa using hsz) (by simpa using hlen) vs.toArray.size 0 { s with heap := h₂.push { cls := .type "list_iterator", data := .fields #[.ref l, .int 0 0] }, toks := tk₂ } [] (by omega) (Nat.zero_le _) (Nat.zero_le _)
    ⟨_, Heap.get?_push_size _ rfl, rfl, rfl⟩ ⟨_, keepAll _ _ hl', rfl, n, rfl⟩ (Heap.DictOf.keep hnew keepAll) (fun j v p h1 h2 => ?_) fun h' tk q1 q2 => ?_
  · obtain ⟨a, t, e1, o, q1, q2⟩ := hp j v p (by simpa using h1) h2
    have hlt := Heap.lt_size q1
    exact ⟨a, t, e1, Nat.ne_of_lt hlt, Nat.ne_of_lt (Nat.lt_trans hlt hsz₂), o, keep0 _ _ q1, q2⟩
  · rw [List.drop_zero] at q1
    refine ⟨rfl, h h' tk q1 fun b o e => ?_⟩
    have hlt := Heap.lt_size e
    exact q2 b o (Nat.ne_of_lt hlt) (Nat.ne_of_lt (Nat.lt_trans hlt hsz₂)) (keep0 b o e)
end
end RegLaw

namespace RegLaw
open PySem PySem.Calls PySem.W PyProof.Rows

noncomputable def StObj (prog : Program) (w : World) (sl : Addr) (at_ : Nat) (o : Obj) : Prop := ∃ t, o.IsDictOf (PySem.strKind prog w) [("script", .ref sl), ("at", .int (at_ : Int) t)]

theorem fmod_range {a : Int} {n : Nat} (h : 0 < n) : 0 ≤ a.fmod n ∧ a.fmod n < n :=
  ⟨Int.fmod_nonneg_of_pos a (by omega), Int.fmod_lt_of_pos a (by omega)⟩

section
variable {prog : Program} {w : World} {F : Fx} {A : Around} {fz k1 k2 : List (Addr × Obj)} {p : Program} {loose : List Str} {mean : ExcName → Option Value} {mg mb : Str → Option Value} {sd sl : Addr} {od ol : Obj} {at_ size : Nat} {ts : Tok} {vs : List Value} {ns : List Int}
theorem nm_l {env : Env} {x : Str} {pos : Pos} {v : Value} {s : Shared} {Q : Value → Shared → Prop} (H : Hp F fz s) (O : EOk env) (hL : env.locals = F.L) (hx : env.kindOf x = some .local) (hm : F.m x = some v) (hd : (x == ("__debug__" : Str)) = false) (h : Q v s) : wpAny (model prog w) A (eval (.Name x pos) env) Q No s :=
  wpAny_Name (wpAny_loadName_local O.k hx (by rw [hL]; exact H.fr.ns) hm h) hd
theorem st_l {env : Env} {x : Str} {v : Value} {s : Shared} {Q : Unit → Shared → Prop} (H : Hp F fz s) (O : EOk env) (hL : env.locals = F.L) (hx : env.kindOf x = some .local) (k : ∀ s', Hp { F with m := fun y => if y = x then some v else F.m y } fz s' → Q () s') :
    wpAny (model prog w) A (storeName env x v) Q No s := by
  obtain ⟨hh, tk, es⟩ := H.sh
  refine wpAny_storeName_local hx (by rw [hL]; exact H.fr.ns) (fun h' hn hs => ?_) (by rw [O.k]; rfl)
  rw [hL] at hn hs
  exact k _ ⟨H.fr.set hn hs, H.nw.set hs, H.nd, h', _, by rw [es]⟩

noncomputable def pullSc : Scope := { kind := ScopeKind.function, names := [(Str.ofString "state", NameKind.local), (Str.ofString "size", NameKind.local), (Str.ofString "at", NameKind.local), (Str.ofString "script", NameKind.local), (Str.ofString "len", NameKind.globalImplicit)], isGenerator := false, isCoroutine := false }
/- one draw -/
theorem pull_ok {Q : Value → Shared → Prop} {s : Shared} (C : FOk (hd.heap_39 w.params) p loose mean mg mb F A 2) (H : Hp { F with keep := k1 ++ (sd, od) :: k2 } fz s) (hd : StObj prog w sl at_ od) (hm : (sl, ol) ∈ k1 ++ k2) (hol : SeqObj "list" vs ol)
    (hI : IntsAre vs ns) (hlen : vs.length ≤ 1000) (hat : at_ ≤ 1000) (hsz : 0 < size) (hsz2 : size ≤ 1000)
    (k : ∀ s' od' i t, StObj prog w sl (at_ + 1) od' → Hp { F with keep := k1 ++ (sd, od') :: k2 } fz s' → i < size → Q (.int ((i : Nat) : Int) t) s') :
    wpAny (model prog w) A (call (.ref 126) [.ref sd, .int (size : Int) ts]) Q No s := by
  obtain ⟨A₀, base, outer, env, B, hA, hf, hke⟩ := C.below
  obtain ⟨t₀, hd⟩ := hd
  refine wpAny_call (code_def (binds := [("state", .ref sd), ("size", .int (size : Int) ts)]) B H.fr C.kin H.nw C.top hA hf hke (by rfl) (by kernel_rfl) (by have := C.depth; omega) (.of_eq (by rfl)) ?_ ?_ (by rfl) (by rfl) (by rfl) ?_)
  · intro y hy
    rcases List.mem_cons.mp hy with rfl | hy
    · rfl
    · rcases List.mem_cons.mp hy with rfl | hy
      · rfl
      · cases hy
  rotate_left
  · decide
  intro g L' h₁ FG F' N' B' X' T'
  obtain ⟨hh0, tk0, es0⟩ := H.sh
  have H₀ : Hp ⟨g, L', fun y => List.lookup y [(Str.ofString "state", Value.ref sd), (Str.ofString "size", Value.int (size : Int) ts)].reverse, k1 ++ (sd, od) :: k2, F.s₀⟩ fz
      { s with heap := h₁, toks := s.toks + [(Str.ofString "state", Value.ref sd), (Str.ofString "size", Value.int (size : Int) ts)].length } := ⟨F', N', H.nd, h₁, _, by rw [es0]⟩
  refine wpAny_mono ?_ (fun _ _ x => x) (fun _ _ x => False.elim x)
  revert H₀
  generalize ({ s with heap := h₁, toks := s.toks + [(Str.ofString "state", Value.ref sd), (Str.ofString "size", Value.int (size : Int) ts)].length } : Shared) = s₁
  intro H₀
  have topr := topRead_of T'
  -- at = state['at']
  refine wpAny_execs_cons (wpAny_Assign_Name (Subscript_ (nm_l H₀ ⟨rfl, rfl, rfl⟩ rfl rfl rfl (by decide) ?_)))
  refine Calls.Constant_str ?_
  have H₁ := H₀.tok (s₁.toks + 1)
  refine kda_item (knd := PySem.strKind prog w) (k := "at") H₁.nw (List.mem_append_right _ (List.mem_append_right _ (.head _))) hd (strKind_is _ _ _ _) (by rfl) ?_
  have H₂ := H₁.tok (s₁.toks + 1 + 1)
  refine st_l H₂ ⟨rfl, rfl, rfl⟩ rfl rfl fun s₂ H₃ => ?_
  -- state['at'] = at + 1
  refine wpAny_execs_cons (wpAny_Assign_Subscript (wpAny_BinOp (nm_l H₃ ⟨rfl, rfl, rfl⟩ rfl rfl rfl (by decide) (wpAny_Constant_int (PySem.P.add_int ?_)))))
  have H₄ := H₃.tok (s₂.toks + 1 + 1)
  refine nm_l H₄ ⟨rfl, rfl, rfl⟩ rfl rfl rfl (by decide) (Calls.Constant_str ?_)
  have H₅ := H₄.tok (s₂.toks + 1 + 1 + 1)
  refine wpAny_setItem_pairs (hsz := by have := sizeLine_ge; simp; omega) (strKind_is _ _ _ _) (Heap.dictOf_iff.mpr ⟨od, H₅.nw.get (List.mem_append_right _ (List.mem_append_right _ (.head _))), hd⟩) fun h' hmm hs => ?_
  obtain ⟨od', hod', hd'⟩ := Heap.dictOf_iff.mp hmm
  have H₆ := Hp.upd (F := ⟨g, L', _, [], F.s₀⟩) (t := s₂.toks + 1 + 1 + 1 + 1) H₅ hs hod'
  have hst' : StObj prog w sl (at_ + 1) od' := ⟨_, hd'⟩
  obtain ⟨t₁, hd''⟩ := id hst'
  revert H₆
  generalize ({ s₂ with heap := h', toks := s₂.toks + 1 + 1 + 1 + 1 } : Shared) = s₃
  intro H₆
  have H₆ : Hp ⟨g, L', _, k1 ++ (sd, od') :: k2, F.s₀⟩ fz s₃ := H₆
  -- script = state['script']
  refine wpAny_execs_cons (wpAny_Assign_Name (Subscript_ (nm_l H₆ ⟨rfl, rfl, rfl⟩ rfl rfl rfl (by decide) ?_)))
  refine Calls.Constant_str ?_
  have H₇ := H₆.tok (s₃.toks + 1)
  refine kda_item (knd := PySem.strKind prog w) (k := "script") H₇.nw (List.mem_append_right _ (List.mem_append_right _ (.head _))) hd'' (strKind_is _ _ _ _) (by rfl) ?_
  have H₈ := H₇.tok (s₃.toks + 1 + 1)
  refine st_l H₈ ⟨rfl, rfl, rfl⟩ rfl rfl fun s₄ H₉ => ?_
  have hmem : (sl, ol) ∈ fz ++ (k1 ++ (sd, od') :: k2) := by
    refine List.mem_append_right _ ?_
    rcases List.mem_append.mp hm with q | q
    · exact List.mem_append_left _ q
    · exact List.mem_append_right _ (.tail _ q)
  obtain ⟨nn, rfl⟩ := hol
  have hlist : ∀ {m : Str → Option Value} {s' : Shared}, Hp ⟨g, L', m, k1 ++ (sd, od') :: k2, F.s₀⟩ fz s' → s'.heap.IsList sl vs.toArray := fun H => ⟨_, H.nw.get hmem, rfl, nn, rfl⟩
  let env' : Env := envOf "_law_pull" pullSc L' 126 (.ref 125)
  have C' : ∀ m, FOk (_root_.RegLaw.hd.heap_39 w.params) p loose mean mg mb ⟨g, L', m, k1 ++ (sd, od') :: k2, F.s₀⟩ (A.deeper env') 1 := fun m =>
    ⟨⟨A, base, env :: outer, env', B', by show A.frames.map _ = _; rw [hA]; rfl, rfl, rfl⟩, X', T', C.handled, C.guards, by show A.depth + 1 + 1 < _; have := C.depth; omega, by show A.units + 3 + 8 * 1 + 100 < _; have := C.units; omega⟩
  refine wpAny_execs_cons (wpAny_Return_some (wpAny_BinOp (wpAny_mono (Q := fun v s' => ∃ x t m, v = .int x t ∧ m (Str.ofString "size") = some (.int (size : Int) ts) ∧ Hp ⟨g, L', m, k1 ++ (sd, od') :: k2, F.s₀⟩ fz s') ?_ ?_ (fun _ _ x => x))))
  rotate_left
  · rintro v s₅ ⟨x, t, m, rfl, hmsz, HH⟩
    refine nm_l HH ⟨rfl, rfl, rfl⟩ rfl rfl hmsz (by decide) (mod_int' (by omega) ?_)
    obtain ⟨r1, r2⟩ := fmod_range (a := x) hsz
    obtain ⟨i, hi⟩ := Int.eq_ofNat_of_zero_le r1
    rw [hi]
    have H' := HH.tok (s₅.toks + 1)
    refine leaveK_ H'.fr H'.nw fun F₃ N₃ => ?_
    exact k _ od' i _ hst' ⟨F₃, N₃, H'.nd, H'.sh⟩ (by rw [hi] at r2; exact Int.ofNat_lt.mp r2)
  refine IfExp_ (wpAny_isTrue_Compare1 (nm_l H₉ ⟨rfl, rfl, rfl⟩ rfl rfl rfl (by decide) ?_))
  refine Call_ (name_Bi (C' _) ⟨rfl, rfl, rfl⟩ H₉ rfl (k_ok w).len boot_len (by decide) (by decide) ?_)
  refine callWith_method1 (first := []) ?_ (by rfl) rfl
  refine spliced_more ?_ (by rfl)
  refine nm_l H₉ ⟨rfl, rfl, rfl⟩ rfl rfl rfl (by decide) (spliced_none ?_)
  refine call_len_list (hlist H₉) (by rw [List.size_toArray]; omega) ?_
  refine PySem.P.lt_int ?_
  refine wpAny_truthy_bool ?_
  have HA := H₉.tok (s₄.toks + 1 + 1)
  by_cases hlt : at_ < vs.length
  · have e : decide (((at_ : Nat) : Int) < ((vs.toArray.size : Nat) : Int)) = true := by simp; omega
    rw [e]
    refine Subscript_ (nm_l HA ⟨rfl, rfl, rfl⟩ rfl rfl rfl (by decide) (nm_l HA ⟨rfl, rfl, rfl⟩ rfl rfl rfl (by decide) ?_))
    obtain ⟨n, t, hv, _⟩ := hI.at at_ vs[at_] (by simp [hlt])
    refine tail_any (hlist HA).typeIs slot_list_getitem.lookup (wpAny_getItem_list (hlist HA) (by simp) (by simp; omega) (x := vs[at_]) (by simp [hlt]) ⟨n, t, _, hv, by rfl, HA⟩) (by rfl)
  · have e : decide (((at_ : Nat) : Int) < ((vs.toArray.size : Nat) : Int)) = false := by simp; omega
    rw [e]
    refine wpAny_BinOp (wpAny_BinOp (wpAny_Constant_int ?_))
    have HB := HA.tok (s₄.toks + 1 + 1 + 1)
    refine nm_l HB ⟨rfl, rfl, rfl⟩ rfl rfl rfl (by decide) (PyProof.Rows.mul_int ?_ (PySem.IntMulOk.of_left (PySem.intBits_le_64 (by simp) (by simp))))
    have HC := HB.tok (s₄.toks + 1 + 1 + 1 + 1)
    refine wpAny_BinOp (nm_l HC ⟨rfl, rfl, rfl⟩ rfl rfl rfl (by decide) (wpAny_Constant_int (floordiv_int (by decide) ?_ (.inl (PyProof.noPylong_small (by simp))))))
    refine PySem.P.add_int ?_
    exact ⟨_, _, _, rfl, by rfl, HC.tok _⟩
end
end RegLaw

namespace RegLaw
open PySem PySem.Calls PySem.W PyProof.Rows

noncomputable def V0 : Vl := ⟨fun _ => 0, fun k => k⟩
theorem V0_ok : V0.Ok := ⟨rfl, fun _ => Int.le_refl 0, fun _ => (by decide : (0 : Int) < 1000), fun _ _ _ => rfl, fun _ _ => rfl⟩
noncomputable def IntsLt (vs : List Value) (n size : Nat) : Prop := vs.length = n ∧ ∀ v ∈ vs, ∃ (i : Nat) (t : Tok), v = .int (i : Int) t ∧ i < size

section
variable {prog : Program} {w : World} {F : Fx} {A : Around} {fz k1 k2 : List (Addr × Obj)} {p : Program} {loose : List Str} {mean : ExcName → Option Value} {mg mb : Str → Option Value} {sd sl cc : Addr} {od ol oc : Obj} {at_ size : Nat} {ts : Tok} {vs : List Value} {ns : List Int} {env : Env} {sc : Scope} {cl : List (Str × Addr)}

theorem pulls_rest {q1 q2 q3 q4 : Pos} {s : Shared} {P : Nat → Value → Prop} {Fin : List Value → List (Addr × Obj) → Prop} (hs : ∃ h tk, s = { F.s₀ with heap := h, toks := tk })
    (C : ∀ od, FOk (hd.heap_39 w.params) p loose mean mg mb { F with keep := k1 ++ (sd, od) :: k2 } A 2) (O : EOk env) (hk : env.kindOf "state" = some .cell) (hsf : sc.names.lookup ("state" : Str) = some .free) (hsg : sc.names.lookup ("_law_pull" : Str) = some .globalImplicit) (hsk : sc.kind = .function)
    (hcl : cl.lookup ("state" : Str) = some cc) (hcc : (cc, oc) ∈ k1) (hoc : oc.data = .cell (some (.ref sd))) (hm : (sl, ol) ∈ k1 ++ k2) (hol : SeqObj "list" vs ol) (hI : IntsAre vs ns) (hlen : vs.length ≤ 1000) (hsz : 0 < size) (hsz2 : size ≤ 1000) :
    ∀ (j i at_ : Nat) (od : Obj) (fz : List (Addr × Obj)) (ys : List Value), at_ + j ≤ 1000 → StObj prog w sl at_ od → ((fz ++ (k1 ++ (sd, od) :: k2)).map (·.1)).Nodup → (∀ v ∈ ys, ∃ (i : Nat) (t : Tok), v = .int (i : Int) t ∧ i < size) →
      (∀ ys' od' , StObj prog w sl (at_ + j) od' → ((fz ++ (k1 ++ (sd, od') :: k2)).map (·.1)).Nodup → ys'.length = ys.length + j → (∀ v ∈ ys', ∃ (i : Nat) (t : Tok), v = .int (i : Int) t ∧ i < size) → Fin ys' (fz ++ (k1 ++ (sd, od') :: k2))) →
      LCg.CompRest prog w A F.h₀ F.L F.m env (.Call (.Name "_law_pull" q1) [.Name "state" q2, .Constant (.int (size : Int)) 0 q3] [] q4) "_" sc cl s (fun _ => True) P Fin j i ys (fz ++ (k1 ++ (sd, od) :: k2))
  | 0, i, at_, od, fz, ys, h1, h2, h3, h4, fin => LCg.CompRest.zero (fin ys od (by simpa using h2) h3 rfl h4)
  | j + 1, i, at_, od, fz, ys, h1, h2, h3, h4, fin => by
    refine LCg.CompRest.succ fun v I oI Ca oC D m₂ h tk E' hP hNs hx F' N' off ne => ?_
    refine wpAny_mono (E := No) ?_ (fun _ _ x => x) (fun _ _ x => x.elim)
    obtain ⟨h0, tk0, es⟩ := hs
    have HB : Hp (blkF { F with keep := k1 ++ (sd, od) :: k2 } I oI Ca oC D ys) fz { s with heap := h, toks := tk } := blk_hp (F := { F with keep := k1 ++ (sd, od) :: k2 }) F' N' off ne h3 (by rw [es])
    have hbk : (compEnvC sc cl Ca env).scope.kind = .function := hsk
    have OB : EOk (compEnvC sc cl Ca env) := ⟨O.g, O.b, hbk⟩
    have CB := (C od).blk I oI Ca oC D ys
    refine Call_ (name_G (v := .ref 126) CB OB HB (relabel_glo hsg) (by kernel_rfl) (by decide) ?_)
    refine callWith_K CB.kin (by kernel_rfl) ?_ (by rfl) (by rfl)
    refine spliced_more ?_ (by rfl)
    refine wpAny_Name (wpAny_loadName_cell hbk (relabel_free hsf O.k hk) hcl ⟨oc, HB.nw.get (List.mem_append_right _ (.tail _ (.tail _ (.tail _ (List.mem_append_left _ hcc))))), hoc⟩ ?_)
    refine spliced_more (wpAny_Constant_int (spliced_none ?_)) (by rfl)
    have HC : Hp { blkF { F with keep := k1 ++ (sd, od) :: k2 } I oI Ca oC D ys with keep := ((I, oI) :: (Ca, oC) :: (D, LCg.lst ys) :: k1) ++ (sd, od) :: k2 } fz _ := HB.tok (tk + 1)
    refine ⟨CB.kin.keeps HC.fr.keep, ?_⟩
    refine pull_ok CB HC h2 (by
      rcases List.mem_append.mp hm with q | q
      · exact List.mem_append_left _ (.tail _ (.tail _ (.tail _ q)))
      · exact List.mem_append_right _ q) hol hI hlen (by omega) hsz hsz2 fun s' od' n t hst H' hn => ?_
    have H'' : Hp (blkF { F with keep := k1 ++ (sd, od') :: k2 } I oI Ca oC D ys) fz s' := H'
    obtain ⟨FB, NB, offB, ndB⟩ := blk_back H''
    obtain ⟨h2', tk2, es2⟩ := H''.sh
    refine ⟨s'.heap, s'.toks, fz ++ (k1 ++ (sd, od') :: k2), by rw [es2, es]; rfl, FB, NB, offB, trivial, ?_⟩
    refine pulls_rest ⟨h0, tk0, es⟩ C O hk hsf hsg hsk hcl hcc hoc hm hol hI hlen hsz hsz2 j (i + 1) (at_ + 1) od' fz (ys ++ [.int (n : Int) t]) (by omega) hst ndB (fun v hv => ?_) fun ys' od'' q1 q2 q3 q4 => ?_
    · rcases List.mem_append.mp hv with hv | hv
      · exact h4 v hv
      · rw [List.mem_singleton.mp hv]; exact ⟨n, t, rfl, hn⟩
    · refine fin ys' od'' (by have e : at_ + 1 + j = at_ + (j + 1) := by omega
                              rw [e] at q1; exact q1) q2 (by rw [q3, List.length_append]; simp; omega) q4
theorem pulls_assign {y : Str} {n : Nat} {e1 e2 q1 q2 q3 q4 px py pn pr pc pp sp : Pos} {s : Shared} {Q : Flow → Shared → Prop}
    (C : ∀ od, FOk (hd.heap_39 w.params) p loose mean mg mb { F with keep := k1 ++ (sd, od) :: k2 } A 2) (O : EOk env) (hL : env.locals = F.L) (S : ScOk env sc "_" cl) (hk : env.kindOf "state" = some .cell) (hsf : sc.names.lookup ("state" : Str) = some .free) (hsg : sc.names.lookup ("_law_pull" : Str) = some .globalImplicit) (hrg : env.kindOf "range" = some .globalImplicit)
    (hy : env.kindOf y = some .local) (hsw : swapsWith (.ListComp (.Call (.Name "_law_pull" q1) [.Name "state" q2, .Constant (.int (size : Int)) 0 q3] [] q4) [⟨.Name "_" px, .Call (.Name "range" pn) [.Constant (.int (n : Int)) 0 pc] [] pr, [], 0⟩] sc pp) (some (.Name y py)) sp.line env = pure true)
    (hcl : cl.lookup ("state" : Str) = some cc) (hcc : (cc, oc) ∈ k1) (hoc : oc.data = .cell (some (.ref sd))) (hm : (sl, ol) ∈ k1 ++ k2) (hol : SeqObj "list" vs ol) (hI : IntsAre vs ns) (hlen : vs.length ≤ 1000) (hsz : 0 < size) (hsz2 : size ≤ 1000) (hn : n < 100) (hat : at_ + n ≤ 1000)
    (hst : StObj prog w sl at_ od) (H : Hp { F with keep := k1 ++ (sd, od) :: k2 } fz s)
    (k : ∀ s' od' D us fz', Sub fz fz' → StObj prog w sl (at_ + n) od' → IntsLt us n size → Hp ⟨F.h₀, F.L, fun z => if z = y then some (.ref D) else F.m z, k1 ++ (sd, od') :: k2, F.s₀⟩ ((D, LCg.lst us) :: fz') s' → Q .next s') :
    wpAny (model prog w) A (exec (.Assign [.Name y py] (.ListComp (.Call (.Name "_law_pull" q1) [.Name "state" q2, .Constant (.int (size : Int)) 0 q3] [] q4) [⟨.Name "_" px, .Call (.Name "range" pn) [.Constant (.int (n : Int)) 0 pc] [] pr, [], 0⟩] sc pp) sp) env) Q No s := by
  refine LCg.Assign_ListComp_U H.fr hL hsw (closureFor_is S.cells) S.nocell S.kind S.names S.x hy (by rw [O.k]; rfl) ?_ (folded_range env)
  have hk0 : natOf (.int ⟨0, .ofNat n⟩) = some n := by
    have e : Nat.blt n 1000 = true := by rw [Nat.blt_eq]; omega
    simp only [natOf, e]
  have hhi : EvV prog w V0 { F with keep := k1 ++ (sd, od) :: k2 } A (eval (X.int n pc).py env) fz (.int ⟨0, .ofNat n⟩) := by
    rw [X.py]
    refine .pure1 fun s Q kk => wpAny_Constant_int ?_
    have e1 : (n : Int) = (IE.mk 0 (Int.ofNat n)).ev V0 := by rw [ev_const V0_ok]; rfl
    rw [e1]
    exact kk _ _ (.int _ _)
  refine rng_then (hi := X.int n pc) V0_ok (C od).down O (k_ok w) hrg hhi hk0 (Sub.refl _) H fun r s₁ fz₁ t₁ u₁ v₁ h1 H₁ hr => ?_
  refine .inr ⟨r, 0, Int.ofNat n, t₁, u₁, v₁, n, fz₁ ++ (k1 ++ (sd, od) :: k2), rfl, (C od).handled, H₁.fr, H₁.nw, hr, small_one (by decide) (by decide) (by simp) (by simp; omega), by rw [rangeSize_nat]; simp, by have := sizeLine_ge; omega, ?_⟩
  rintro s₂ ⟨h, rfl⟩
  obtain ⟨hh, tk0, es⟩ := H₁.sh
  have hs₂ : ∃ h' tk, ({ s₁ with heap := h } : Shared) = { F.s₀ with heap := h', toks := tk } := ⟨h, tk0, by rw [es]⟩
  refine pulls_rest (F := F) hs₂ C O hk hsf hsg S.kind hcl hcc hoc hm hol hI hlen hsz hsz2 n 0 at_ od fz₁ [] hat hst H₁.nd (fun v hv => by cases hv) fun ys' od' q1 q2 q3 q4 D h3 tk F' N' off => ?_
  obtain ⟨hh2, tk2, es2⟩ := hs₂
  exact k _ od' D ys' fz₁ h1 q1 ⟨by simpa using q3, q4⟩ ⟨F', N', off1_nodup off q2, h3, tk, by rw [es2]⟩
end
end RegLaw

namespace RegLaw
open PySem PySem.Calls PySem.W PyProof.Rows

noncomputable def rD : SD := .lst [.int ⟨1, 0⟩, .int ⟨2, 0⟩, .int ⟨3, 0⟩, .int ⟨4, 0⟩]
noncomputable def jD : SD := .lst [.int ⟨11, 0⟩, .int ⟨12, 0⟩, .int ⟨13, 0⟩]
noncomputable def gA (w : List Nat) (n : SD) : G := { l := [(16, .str [.lit w]), (18, rD), (29, jD)], c := [(20, some n)], o := [], v := .none }
noncomputable def sameN (n : SD) (g : G) : Bool := match n, g.c, g.o with
  | .int a, [(x, some (.int b))], [] => Nat.beq x 20 && Nat.beq b.v a.v && ieq b.k a.k
  | _, _, _ => false
noncomputable def runF (w : List Nat) (n : SD) : Bool := match (evs tb 28).s (gA w n) [t_4, t_5, t_6] with
  | some (.nx, g1) => match (evs tb 28).s { g1 with l := put 12 .map g1.l } [t_8] with
    | some (.nx, g2) => match look g2.l 2, look g2.l 23 with
      | some d, some (.str ps) => match (evs tb 28).c 10 [d] with
        | some (.str qs) => all2 Pc.same ps qs && (Nat.blt (tlen ps) 1000 && SD.ok 12 (.str ps)) && sameN n g1 && sameN n g2
        | _ => false
      | _, _ => false
    | _ => false
  | _ => false
theorem run_0 : runF [115, 101, 116] (.int ⟨20, 0⟩) = true := by decide +kernel
theorem run_1 : runF [109, 111, 118, 101] (.int ⟨20, 0⟩) = true := by decide +kernel
theorem run_2 : runF [98, 105, 110] (.int ⟨20, 0⟩) = true := by decide +kernel
theorem run_3 : runF [99, 109, 112] (.int ⟨20, 0⟩) = true := by decide +kernel
theorem run_4 : runF [117, 110] (.int ⟨20, 0⟩) = true := by decide +kernel
theorem run_5 : runF [99, 111, 110, 118] (.int ⟨20, 0⟩) = true := by decide +kernel
theorem run_6 : runF [99, 97, 116] (.int ⟨20, 0⟩) = true := by decide +kernel
theorem run_7 : runF [97, 100, 100, 114] (.int ⟨20, 0⟩) = true := by decide +kernel
theorem run_8_0 : runF [99, 117, 116] (.int ⟨0, .ofNat 0⟩) = true := by decide +kernel
theorem run_8_1 : runF [99, 117, 116] (.int ⟨0, .ofNat 1⟩) = true := by decide +kernel
theorem run_8_2 : runF [99, 117, 116] (.int ⟨0, .ofNat 2⟩) = true := by decide +kernel
theorem run_8_3 : runF [99, 117, 116] (.int ⟨0, .ofNat 3⟩) = true := by decide +kernel
theorem run_8_4 : runF [99, 117, 116] (.int ⟨0, .ofNat 4⟩) = true := by decide +kernel
theorem run_8_5 : runF [99, 117, 116] (.int ⟨0, .ofNat 5⟩) = true := by decide +kernel
theorem run_8_6 : runF [99, 117, 116] (.int ⟨0, .ofNat 6⟩) = true := by decide +kernel
theorem run_8_7 : runF [99, 117, 116] (.int ⟨0, .ofNat 7⟩) = true := by decide +kernel
theorem run_8_8 : runF [99, 117, 116] (.int ⟨0, .ofNat 8⟩) = true := by decide +kernel
theorem run_8_9 : runF [99, 117, 116] (.int ⟨0, .ofNat 9⟩) = true := by decide +kernel
theorem run_8_10 : runF [99, 117, 116] (.int ⟨0, .ofNat 10⟩) = true := by decide +kernel
theorem run_8_11 : runF [99, 117, 116] (.int ⟨0, .ofNat 11⟩) = true := by decide +kernel
theorem run_8_12 : runF [99, 117, 116] (.int ⟨0, .ofNat 12⟩) = true := by decide +kernel
theorem run_9_0 : runF [101, 108, 101, 109] (.int ⟨0, .ofNat 0⟩) = true := by decide +kernel
theorem run_9_1 : runF [101, 108, 101, 109] (.int ⟨0, .ofNat 1⟩) = true := by decide +kernel
theorem run_9_2 : runF [101, 108, 101, 109] (.int ⟨0, .ofNat 2⟩) = true := by decide +kernel
theorem run_9_3 : runF [101, 108, 101, 109] (.int ⟨0, .ofNat 3⟩) = true := by decide +kernel
theorem run_9_4 : runF [101, 108, 101, 109] (.int ⟨0, .ofNat 4⟩) = true := by decide +kernel
theorem run_9_5 : runF [101, 108, 101, 109] (.int ⟨0, .ofNat 5⟩) = true := by decide +kernel
theorem run_9_6 : runF [101, 108, 101, 109] (.int ⟨0, .ofNat 6⟩) = true := by decide +kernel
theorem run_9_7 : runF [101, 108, 101, 109] (.int ⟨0, .ofNat 7⟩) = true := by decide +kernel
theorem run_9_8 : runF [101, 108, 101, 109] (.int ⟨0, .ofNat 8⟩) = true := by decide +kernel
theorem run_9_9 : runF [101, 108, 101, 109] (.int ⟨0, .ofNat 9⟩) = true := by decide +kernel
theorem run_9_10 : runF [101, 108, 101, 109] (.int ⟨0, .ofNat 10⟩) = true := by decide +kernel
theorem run_9_11 : runF [101, 108, 101, 109] (.int ⟨0, .ofNat 11⟩) = true := by decide +kernel
theorem run_9_12 : runF [101, 108, 101, 109] (.int ⟨0, .ofNat 12⟩) = true := by decide +kernel
theorem run_10 : runF [108, 111, 97, 100] (.int ⟨20, 0⟩) = true := by decide +kernel
theorem run_11 : runF [115, 116, 111, 114, 101] (.int ⟨20, 0⟩) = true := by decide +kernel
theorem run_12 : runF [116, 101, 109, 112] (.int ⟨20, 0⟩) = true := by decide +kernel
theorem run_13 : runF [105, 110, 116, 114] (.int ⟨20, 0⟩) = true := by decide +kernel
theorem run_14_0 : runF [99, 97, 108, 108] (.int ⟨0, .ofNat 0⟩) = true := by decide +kernel
theorem run_14_1 : runF [99, 97, 108, 108] (.int ⟨0, .ofNat 1⟩) = true := by decide +kernel
theorem run_14_2 : runF [99, 97, 108, 108] (.int ⟨0, .ofNat 2⟩) = true := by decide +kernel
theorem run_14_3 : runF [99, 97, 108, 108] (.int ⟨0, .ofNat 3⟩) = true := by decide +kernel
theorem run_14_4 : runF [99, 97, 108, 108] (.int ⟨0, .ofNat 4⟩) = true := by decide +kernel
theorem run_14_5 : runF [99, 97, 108, 108] (.int ⟨0, .ofNat 5⟩) = true := by decide +kernel
theorem run_14_6 : runF [99, 97, 108, 108] (.int ⟨0, .ofNat 6⟩) = true := by decide +kernel
theorem run_14_7 : runF [99, 97, 108, 108] (.int ⟨0, .ofNat 7⟩) = true := by decide +kernel
theorem run_14_8 : runF [99, 97, 108, 108] (.int ⟨0, .ofNat 8⟩) = true := by decide +kernel
theorem run_14_9 : runF [99, 97, 108, 108] (.int ⟨0, .ofNat 9⟩) = true := by decide +kernel
theorem run_14_10 : runF [99, 97, 108, 108] (.int ⟨0, .ofNat 10⟩) = true := by decide +kernel
theorem run_14_11 : runF [99, 97, 108, 108] (.int ⟨0, .ofNat 11⟩) = true := by decide +kernel
theorem run_14_12 : runF [99, 97, 108, 108] (.int ⟨0, .ofNat 12⟩) = true := by decide +kernel
theorem run_15 : runF [99, 111, 117, 110, 116] (.int ⟨20, 0⟩) = true := by decide +kernel
theorem run_16 : runF [106, 117, 109, 112] (.int ⟨20, 0⟩) = true := by decide +kernel
theorem run_17 : runF [116, 114, 117, 101] (.int ⟨20, 0⟩) = true := by decide +kernel
theorem run_18 : runF [102, 97, 108, 115, 101] (.int ⟨20, 0⟩) = true := by decide +kernel
theorem run_19 : runF [115, 105, 103, 110] (.int ⟨20, 0⟩) = true := by decide +kernel
theorem run_20_0 : runF [115, 119, 105, 116, 99, 104] (.int ⟨0, .ofNat 0⟩) = true := by decide +kernel
theorem run_20_1 : runF [115, 119, 105, 116, 99, 104] (.int ⟨0, .ofNat 1⟩) = true := by decide +kernel
theorem run_20_2 : runF [115, 119, 105, 116, 99, 104] (.int ⟨0, .ofNat 2⟩) = true := by decide +kernel
theorem run_20_3 : runF [115, 119, 105, 116, 99, 104] (.int ⟨0, .ofNat 3⟩) = true := by decide +kernel
theorem run_20_4 : runF [115, 119, 105, 116, 99, 104] (.int ⟨0, .ofNat 4⟩) = true := by decide +kernel
theorem run_20_5 : runF [115, 119, 105, 116, 99, 104] (.int ⟨0, .ofNat 5⟩) = true := by decide +kernel
theorem run_20_6 : runF [115, 119, 105, 116, 99, 104] (.int ⟨0, .ofNat 6⟩) = true := by decide +kernel
theorem run_20_7 : runF [115, 119, 105, 116, 99, 104] (.int ⟨0, .ofNat 7⟩) = true := by decide +kernel
theorem run_20_8 : runF [115, 119, 105, 116, 99, 104] (.int ⟨0, .ofNat 8⟩) = true := by decide +kernel
theorem run_20_9 : runF [115, 119, 105, 116, 99, 104] (.int ⟨0, .ofNat 9⟩) = true := by decide +kernel
theorem run_20_10 : runF [115, 119, 105, 116, 99, 104] (.int ⟨0, .ofNat 10⟩) = true := by decide +kernel
theorem run_20_11 : runF [115, 119, 105, 116, 99, 104] (.int ⟨0, .ofNat 11⟩) = true := by decide +kernel
theorem run_20_12 : runF [115, 119, 105, 116, 99, 104] (.int ⟨0, .ofNat 12⟩) = true := by decide +kernel
theorem run_21 : runF [115, 101, 116, 108, 97, 98, 101, 108] (.int ⟨20, 0⟩) = true := by decide +kernel
theorem run_22 : runF [97, 103, 111, 116, 111] (.int ⟨20, 0⟩) = true := by decide +kernel
theorem run_23_0 : runF [114, 101, 116, 117, 114, 110] (.int ⟨0, .ofNat 0⟩) = true := by decide +kernel
theorem run_23_1 : runF [114, 101, 116, 117, 114, 110] (.int ⟨0, .ofNat 1⟩) = true := by decide +kernel
theorem run_23_2 : runF [114, 101, 116, 117, 114, 110] (.int ⟨0, .ofNat 2⟩) = true := by decide +kernel
theorem run_23_3 : runF [114, 101, 116, 117, 114, 110] (.int ⟨0, .ofNat 3⟩) = true := by decide +kernel
theorem run_23_4 : runF [114, 101, 116, 117, 114, 110] (.int ⟨0, .ofNat 4⟩) = true := by decide +kernel
theorem run_23_5 : runF [114, 101, 116, 117, 114, 110] (.int ⟨0, .ofNat 5⟩) = true := by decide +kernel
theorem run_23_6 : runF [114, 101, 116, 117, 114, 110] (.int ⟨0, .ofNat 6⟩) = true := by decide +kernel
theorem run_23_7 : runF [114, 101, 116, 117, 114, 110] (.int ⟨0, .ofNat 7⟩) = true := by decide +kernel
theorem run_23_8 : runF [114, 101, 116, 117, 114, 110] (.int ⟨0, .ofNat 8⟩) = true := by decide +kernel
theorem run_23_9 : runF [114, 101, 116, 117, 114, 110] (.int ⟨0, .ofNat 9⟩) = true := by decide +kernel
theorem run_23_10 : runF [114, 101, 116, 117, 114, 110] (.int ⟨0, .ofNat 10⟩) = true := by decide +kernel
theorem run_23_11 : runF [114, 101, 116, 117, 114, 110] (.int ⟨0, .ofNat 11⟩) = true := by decide +kernel
theorem run_23_12 : runF [114, 101, 116, 117, 114, 110] (.int ⟨0, .ofNat 12⟩) = true := by decide +kernel
theorem run_24 : runF [115, 116, 111, 112] (.int ⟨20, 0⟩) = true := by decide +kernel
theorem run_25 : runF [112, 97, 117, 115, 101] (.int ⟨20, 0⟩) = true := by decide +kernel
theorem run_26_0 : runF [105, 111] (.int ⟨0, .ofNat 0⟩) = true := by decide +kernel
theorem run_26_1 : runF [105, 111] (.int ⟨0, .ofNat 1⟩) = true := by decide +kernel
theorem run_26_2 : runF [105, 111] (.int ⟨0, .ofNat 2⟩) = true := by decide +kernel
theorem run_26_3 : runF [105, 111] (.int ⟨0, .ofNat 3⟩) = true := by decide +kernel
theorem run_26_4 : runF [105, 111] (.int ⟨0, .ofNat 4⟩) = true := by decide +kernel
theorem run_26_5 : runF [105, 111] (.int ⟨0, .ofNat 5⟩) = true := by decide +kernel
theorem run_26_6 : runF [105, 111] (.int ⟨0, .ofNat 6⟩) = true := by decide +kernel
theorem run_26_7 : runF [105, 111] (.int ⟨0, .ofNat 7⟩) = true := by decide +kernel
theorem run_26_8 : runF [105, 111] (.int ⟨0, .ofNat 8⟩) = true := by decide +kernel
theorem run_26_9 : runF [105, 111] (.int ⟨0, .ofNat 9⟩) = true := by decide +kernel
theorem run_26_10 : runF [105, 111] (.int ⟨0, .ofNat 10⟩) = true := by decide +kernel
theorem run_26_11 : runF [105, 111] (.int ⟨0, .ofNat 11⟩) = true := by decide +kernel
theorem run_26_12 : runF [105, 111] (.int ⟨0, .ofNat 12⟩) = true := by decide +kernel
theorem run_27 : runF [110, 111, 112] (.int ⟨20, 0⟩) = true := by decide +kernel
theorem run_28 : runF [108, 101, 110, 103, 116, 104] (.int ⟨20, 0⟩) = true := by decide +kernel
theorem run_29 : runF [107, 101, 101, 112] (.int ⟨20, 0⟩) = true := by decide +kernel
theorem run_30 : runF [102, 101, 116, 99, 104] (.int ⟨20, 0⟩) = true := by decide +kernel
noncomputable def wsL : List (List Nat) := [[115, 101, 116], [109, 111, 118, 101], [98, 105, 110], [99, 109, 112], [117, 110], [99, 111, 110, 118], [99, 97, 116], [97, 100, 100, 114], [99, 117, 116], [101, 108, 101, 109], [108, 111, 97, 100], [115, 116, 111, 114, 101], [116, 101, 109, 112], [105, 110, 116, 114], [99, 97, 108, 108], [99, 111, 117, 110, 116], [106, 117, 109, 112], [116, 114, 117, 101], [102, 97, 108, 115, 101], [115, 105, 103, 110], [115, 119, 105, 116, 99, 104], [115, 101, 116, 108, 97, 98, 101, 108], [97, 103, 111, 116, 111], [114, 101, 116, 117, 114, 110], [115, 116, 111, 112], [112, 97, 117, 115, 101], [105, 111], [110, 111, 112], [108, 101, 110, 103, 116, 104], [107, 101, 101, 112], [102, 101, 116, 99, 104]]
noncomputable def conc (i : Nat) : Bool := match i with
  | 8 | 9 | 14 | 20 | 23 | 26 => true
  | _ => false
noncomputable def nD (i n : Nat) : SD := match conc i with
  | true => .int ⟨0, .ofNat n⟩
  | false => .int ⟨20, 0⟩
theorem run_all : ∀ (i n : Nat) (w : List Nat), wsL[i]? = some w → n < 13 → runF w (nD i n) = true := by
  intro i n w h hn
  match i, h with
  | 0, h =>
    cases h
    exact run_0
  | 1, h =>
    cases h
    exact run_1
  | 2, h =>
    cases h
    exact run_2
  | 3, h =>
    cases h
    exact run_3
  | 4, h =>
    cases h
    exact run_4
  | 5, h =>
    cases h
    exact run_5
  | 6, h =>
    cases h
    exact run_6
  | 7, h =>
    cases h
    exact run_7
  | 8, h =>
    cases h
    match n, hn with
    | 0, _ => exact run_8_0
    | 1, _ => exact run_8_1
    | 2, _ => exact run_8_2
    | 3, _ => exact run_8_3
    | 4, _ => exact run_8_4
    | 5, _ => exact run_8_5
    | 6, _ => exact run_8_6
    | 7, _ => exact run_8_7
    | 8, _ => exact run_8_8
    | 9, _ => exact run_8_9
    | 10, _ => exact run_8_10
    | 11, _ => exact run_8_11
    | 12, _ => exact run_8_12
    | _ + 13, hn => exact absurd hn (by omega)
  | 9, h =>
    cases h
    match n, hn with
    | 0, _ => exact run_9_0
    | 1, _ => exact run_9_1
    | 2, _ => exact run_9_2
    | 3, _ => exact run_9_3
    | 4, _ => exact run_9_4
    | 5, _ => exact run_9_5
    | 6, _ => exact run_9_6
    | 7, _ => exact run_9_7
    | 8, _ => exact run_9_8
    | 9, _ => exact run_9_9
    | 10, _ => exact run_9_10
    | 11, _ => exact run_9_11
    | 12, _ => exact run_9_12
    | _ + 13, hn => exact absurd hn (by omega)
  | 10, h =>
    cases h
    exact run_10
  | 11, h =>
    cases h
    exact run_11
  | 12, h =>
    cases h
    exact run_12
  | 13, h =>
    cases h
    exact run_13
  | 14, h =>
    cases h
    match n, hn with
    | 0, _ => exact run_14_0
    | 1, _ => exact run_14_1
    | 2, _ => exact run_14_2
    | 3, _ => exact run_14_3
    | 4, _ => exact run_14_4
    | 5, _ => exact run_14_5
    | 6, _ => exact run_14_6
    | 7, _ => exact run_14_7
    | 8, _ => exact run_14_8
    | 9, _ => exact run_14_9
    | 10, _ => exact run_14_10
    | 11, _ => exact run_14_11
    | 12, _ => exact run_14_12
    | _ + 13, hn => exact absurd hn (by omega)
  | 15, h =>
    cases h
    exact run_15
  | 16, h =>
    cases h
    exact run_16
  | 17, h =>
    cases h
    exact run_17
  | 18, h =>
    cases h
    exact run_18
  | 19, h =>
    cases h
    exact run_19
  | 20, h =>
    cases h
    match n, hn with
    | 0, _ => exact run_20_0
    | 1, _ => exact run_20_1
    | 2, _ => exact run_20_2
    | 3, _ => exact run_20_3
    | 4, _ => exact run_20_4
    | 5, _ => exact run_20_5
    | 6, _ => exact run_20_6
    | 7, _ => exact run_20_7
    | 8, _ => exact run_20_8
    | 9, _ => exact run_20_9
    | 10, _ => exact run_20_10
    | 11, _ => exact run_20_11
    | 12, _ => exact run_20_12
    | _ + 13, hn => exact absurd hn (by omega)
  | 21, h =>
    cases h
    exact run_21
  | 22, h =>
    cases h
    exact run_22
  | 23, h =>
    cases h
    match n, hn with
    | 0, _ => exact run_23_0
    | 1, _ => exact run_23_1
    | 2, _ => exact run_23_2
    | 3, _ => exact run_23_3
    | 4, _ => exact run_23_4
    | 5, _ => exact run_23_5
    | 6, _ => exact run_23_6
    | 7, _ => exact run_23_7
    | 8, _ => exact run_23_8
    | 9, _ => exact run_23_9
    | 10, _ => exact run_23_10
    | 11, _ => exact run_23_11
    | 12, _ => exact run_23_12
    | _ + 13, hn => exact absurd hn (by omega)
  | 24, h =>
    cases h
    exact run_24
  | 25, h =>
    cases h
    exact run_25
  | 26, h =>
    cases h
    match n, hn with
    | 0, _ => exact run_26_0
    | 1, _ => exact run_26_1
    | 2, _ => exact run_26_2
    | 3, _ => exact run_26_3
    | 4, _ => exact run_26_4
    | 5, _ => exact run_26_5
    | 6, _ => exact run_26_6
    | 7, _ => exact run_26_7
    | 8, _ => exact run_26_8
    | 9, _ => exact run_26_9
    | 10, _ => exact run_26_10
    | 11, _ => exact run_26_11
    | 12, _ => exact run_26_12
    | _ + 13, hn => exact absurd hn (by omega)
  | 27, h =>
    cases h
    exact run_27
  | 28, h =>
    cases h
    exact run_28
  | 29, h =>
    cases h
    exact run_29
  | 30, h =>
    cases h
    exact run_30
  | _ + 31, h => exact absurd h (by simp [wsL])
end RegLaw

namespace RegLaw
open PySem PySem.Calls PySem.W PyProof.Rows

/- the mapping of a turn -/
noncomputable def mapM (n : Nat) (k : Int) : Int := if 0 ≤ k ∧ k ≤ 8 ∧ k % 4 ≠ (n : Int) % 4 then (5 * k + n) % 9 else k
noncomputable def pairsD (n : Nat) : List (Nat × Nat) := ((List.range 9).filter fun a => a % 4 != n % 4).map fun a => (a, (5 * a + n) % 9)
theorem pairs_mem {n a b : Nat} : (a, b) ∈ pairsD n ↔ a < 9 ∧ a % 4 ≠ n % 4 ∧ b = (5 * a + n) % 9 := by
  unfold pairsD
  simp only [List.mem_map, List.mem_filter, List.mem_range, bne_iff_ne, Prod.mk.injEq]
  constructor
  · rintro ⟨x, ⟨h1, h2⟩, rfl, rfl⟩
    exact ⟨h1, h2, rfl⟩
  · rintro ⟨h1, h2, rfl⟩
    exact ⟨a, ⟨h1, h2⟩, rfl, rfl⟩
theorem pairs_map {n a b : Nat} (h : (a, b) ∈ pairsD n) : mapM n (a : Int) = (b : Int) := by
  obtain ⟨h1, h2, rfl⟩ := pairs_mem.mp h
  unfold mapM
  rw [if_pos ⟨by omega, by omega, by omega⟩]
  omega
theorem map_same {n : Nat} {k : Int} (h : ∀ a b : Nat, (a, b) ∈ pairsD n → k ≠ (a : Int)) : mapM n k = k := by
  unfold mapM
  split
  · rename_i q
    obtain ⟨q1, q2, q3⟩ := q
    obtain ⟨m, rfl⟩ := Int.eq_ofNat_of_zero_le q1
    exact absurd rfl (h m ((5 * m + n) % 9) (pairs_mem.mpr ⟨by omega, by omega, rfl⟩))
  · rfl
theorem mapM_lo {n : Nat} {k : Int} (h : 0 ≤ k) : 0 ≤ mapM n k := by unfold mapM; split <;> omega
theorem mapM_hi {n : Nat} {k : Int} (h : k < 1000) : mapM n k < 1000 := by unfold mapM; split <;> omega

structure Tn where
  a : Nat
  b : Nat
  c : Nat
  d : Nat
  e : Nat
  f : Nat
  g : Nat
  n : Nat
structure Tn.Ok (t : Tn) : Prop where
  a : t.a < 9
  b : t.b < 9
  c : t.c < 9
  d : t.d < 9
  e : t.e < 12
  f : t.f < 12
  g : t.g < 12
  n : t.n < 13
noncomputable def Tn.base (t : Tn) (i : Nat) : Nat := if i = 1 then t.a else if i = 2 then t.b else if i = 3 then t.c else if i = 4 then t.d else if i = 11 then t.e else if i = 12 then t.f else if i = 13 then t.g else if i = 20 then t.n else 0
noncomputable def Tn.vl (t : Tn) : Vl := ⟨fun i => if i < 100 then (t.base i : Int) else if i < 200 then mapM t.n (t.base (i - 100)) else 0, mapM t.n⟩
theorem Tn.base_lt {t : Tn} (h : t.Ok) (i : Nat) : t.base i < 1000 := by
  have := h.a; have := h.b; have := h.c; have := h.d; have := h.e; have := h.f; have := h.g; have := h.n
  unfold Tn.base
  repeat' split
  all_goals omega
theorem Tn.ok {t : Tn} (h : t.Ok) : t.vl.Ok where
  zero := rfl
  lo i := by
    simp only [Tn.vl]
    split
    · omega
    · split
      · exact mapM_lo (by omega)
      · omega
  hi i := by
    have h1 := Tn.base_lt h i
    have h2 := Tn.base_lt h (i - 100)
    simp only [Tn.vl]
    split
    · omega
    · split
      · exact mapM_hi (by omega)
      · omega
  get i h1 h2 := by
    simp only [Tn.vl]
    rw [if_neg (by omega), if_pos (by omega), if_pos h2]
    simp
  neg k h := by
    simp only [Tn.vl, mapM]
    rw [if_neg (by omega)]

/- the pairs as the list of tuples has them -/
inductive PrsR : List (Nat × Nat) → List (Int × Value) → Prop
  | nil : PrsR [] []
  | cons (a b : Nat) (t : Tok) {l : List (Nat × Nat)} {r : List (Int × Value)} : PrsR l r → PrsR ((a, b) :: l) (((a : Int), .int (b : Int) t) :: r)
theorem PrsR.mem : ∀ {l : List (Nat × Nat)} {r : List (Int × Value)}, PrsR l r → ∀ p ∈ r, ∃ a b t, (a, b) ∈ l ∧ p = ((a : Int), .int (b : Int) t)
  | _, _, .nil, p, h => by cases h
  | _, _, .cons a b t r, p, h => by
    rcases List.mem_cons.mp h with rfl | h
    · exact ⟨a, b, t, .head _, rfl⟩
    · obtain ⟨a', b', t', q1, q2⟩ := PrsR.mem r p h
      exact ⟨a', b', t', .tail _ q1, q2⟩
theorem PrsR.key : ∀ {l : List (Nat × Nat)} {r : List (Int × Value)}, PrsR l r → ∀ a b, (a, b) ∈ l → ∃ v, ((a : Int), v) ∈ r
  | _, _, .nil, a, b, h => by cases h
  | _, _, .cons a0 b0 t r, a, b, h => by
    rcases List.mem_cons.mp h with e | h
    · cases e; exact ⟨_, .head _⟩
    · obtain ⟨v, q⟩ := PrsR.key r a b h
      exact ⟨v, .tail _ q⟩
theorem PrsR.keys : ∀ {l : List (Nat × Nat)} {r : List (Int × Value)}, PrsR l r → r.map (·.1) = l.map fun p => ((p.1 : Nat) : Int)
  | _, _, .nil => rfl
  | _, _, .cons a b t r => by rw [List.map_cons, List.map_cons, PrsR.keys r]
theorem PrsR.len {l : List (Nat × Nat)} {r : List (Int × Value)} (h : PrsR l r) : r.length = l.length := by
  have := congrArg List.length h.keys
  simpa using this
noncomputable def pairSD (p : Nat × Nat) : SD := .tup [.int ⟨0, .ofNat p.1⟩, .int ⟨0, .ofNat p.2⟩]
theorem prs_of {V : Vl} (hV : V.Ok) {fz : List (Addr × Obj)} : ∀ {l : List (Nat × Nat)} {vs : List Value}, VAll V fz vs (l.map pairSD) → ∃ prs, PrsR l prs ∧ ∀ (j : Nat) v p, vs[j]? = some v → prs[j]? = some p → ∃ a o t, v = .ref a ∧ (a, o) ∈ fz ∧ SeqObj "tuple" [.int p.1 t, p.2] o
  | [], vs, h => by
    cases h
    exact ⟨[], .nil, fun j v p h => by simp at h⟩
  | p :: l, vs, h => by
    rw [List.map_cons] at h
    cases h with
    | cons h1 h2 =>
      obtain ⟨prs, q1, q2⟩ := prs_of hV h2
      unfold pairSD at h1
      cases h1 with
      | tup hm k r =>
        cases r with
        | cons r1 r2 =>
          cases r2 with
          | cons r3 r4 =>
            cases r4
            cases r1 with
            | int _ t1 =>
              cases r3 with
              | int _ t2 =>
                rw [ev_const hV, ev_const hV] at k
                refine ⟨_, .cons p.1 p.2 t2 q1, fun j v p' hj hp => ?_⟩
                cases j with
                | zero =>
                  simp only [List.getElem?_cons_zero, Option.some.injEq] at hj hp
                  subst hj; subst hp
                  exact ⟨_, _, t1, rfl, hm, k⟩
                | succ j => exact q2 j v p' (by simpa using hj) (by simpa using hp)
theorem pairs_nodup (n : Nat) : ((pairsD n).map fun p => ((p.1 : Nat) : Int)).Nodup := by
  unfold pairsD
  rw [List.map_map]
  have h : ((List.range 9).filter fun a => a % 4 != n % 4).Nodup := List.nodup_range.filter _
  exact h.map (f := fun a : Nat => (a : Int)) (fun a b hab e => hab (Int.ofNat.inj e))
theorem valueAt_mem {kvs : List (Int × Value)} {k : Int} {v : Value} (h : valueAt kvs k = some v) : (k, v) ∈ kvs := by
  unfold valueAt at h
  cases hf : kvs.find? (fun kv => kv.1 = k) with
  | none => rw [hf] at h; cases h
  | some p =>
    rw [hf] at h
    cases h
    have h1 := List.find?_some hf
    have h2 := List.mem_of_find?_eq_some hf
    simp only [decide_eq_true_eq] at h1
    subst h1
    exact h2
theorem valueAt_none {kvs : List (Int × Value)} {k : Int} (h : valueAt kvs k = none) : ∀ p ∈ kvs, p.1 ≠ k := by
  unfold valueAt at h
  intro p hp e
  cases hf : kvs.find? (fun kv => kv.1 = k) with
  | none =>
    have := List.find?_eq_none.mp hf p hp
    simp [e] at this
  | some q => rw [hf] at h; cases h
theorem map_obj {prog : Program} {w : World} {t : Tn} {prs : List (Int × Value)} {o : Obj} (h : PrsR (pairsD t.n) prs) (hd : o.IsDictOf (PySem.intKind prog w) prs) : MapObj t.vl o := by
  obtain ⟨es, ep, hc, hdat, hk, hp, hn⟩ := hd
  refine ⟨valueAt prs, fun hh a prog' w' e => ?_, fun k => ⟨fun hnone => ?_, fun v hv => ?_⟩⟩
  · have hD : hh.DictOf (PySem.intKind prog' w') a prs := by
      refine ⟨o, es, ep, e, hc, hdat, hk, ?_, hn⟩
      clear hdat hk hn h
      generalize es.toList = l at hp
      induction hp with
      | nil => exact .nil
      | cons a b _ ih => exact .cons a b ih
    exact hD.mapOf
  · refine map_same fun a b hab e => ?_
    obtain ⟨v, hv⟩ := h.key a b hab
    exact valueAt_none hnone _ hv e.symm
  · obtain ⟨a, b, tk, q1, q2⟩ := h.mem _ (valueAt_mem hv)
    cases q2
    exact ⟨tk, by rw [show t.vl.M = mapM t.n from rfl, pairs_map q1]⟩
end RegLaw

namespace RegLaw
open PySem PySem.Calls PySem.W PyProof.Rows

section
variable {prog : Program} {w : World} {V : Vl} {R : Rc} {A : Around} {K : Frag} {T : Tb} {p : Program} {loose : List Str} {mean : ExcName → Option Value} {mg mb : Str → Option Value} {n : Nat}
theorem seq_rest (hV : V.Ok) (KK : KOk K w T) (E : ExprOK prog w V K T p loose mean mg mb n) (SO : StmtOK prog w V K T p loose mean mg mb n) (O : RcOk R) {rest : List Stmt} {Q : Flow → Shared → Prop} :
    ∀ {ss : List S} {g g' : G} {fl : Fl} {m : Str → Option Value} {fz cells ow : List (Addr × Obj)} {s : Shared}, FOk K p loose mean mg mb (R.fx m cells ow) A n → seqGo (stepFor T (evs T n).x (evs T n).s) g ss = some (fl, g') → chkSs R.env.scope ss = true →
      SR R V g m fz cells ow s → Post R V fz m g' (fun f s' => match f with | .next => wpAny (model prog w) A (execs rest R.env) Q No s' | f => Q f s') fl → wpAny (model prog w) A (execs (spys ss ++ rest) R.env) Q No s
  | [], g, g', fl, m, fz, cells, ow, s, C, h, hc, H, P => by
    simp only [seqGo] at h
    cases h
    rw [spys, List.nil_append]
    exact P m fz cells ow s (Sub.refl _) (.refl _) H
  | st :: r, g, g', fl, m, fz, cells, ow, s, C, h, hc, H, P => by
    simp only [seqGo] at h
    rw [chkSs, Bool.and_eq_true] at hc
    rw [spys, List.cons_append]
    refine wpAny_execs_cons ?_
    split at h
    · rename_i g₁ h1
      refine step_sound hV KK E SO C O H hc.1 h1 ?_
      intro m₂ fz₂ cells₂ ow₂ s₂ h2 h3 H₂
      exact seq_rest hV KK E SO O (C.any (F' := R.fx m₂ cells₂ ow₂) rfl rfl) h hc.2 H₂ (P.up h2 h3)
    · rename_i d g₁ h1
      cases h
      refine step_sound hV KK E SO C O H hc.1 h1 ?_
      intro v m₂ fz₂ cells₂ s₂ h2 H₂ hv
      exact P v m₂ fz₂ cells₂ s₂ h2 H₂ hv
    · cases h
end

theorem sameN_is {n : SD} {g : G} (h : sameN n g = true) : g.c = [(20, some n)] ∧ g.o = [] := by
  unfold sameN at h
  split at h
  · rename_i a x b h1 h2
    simp only [Bool.and_eq_true] at h
    obtain ⟨⟨q1, q2⟩, q3⟩ := h
    have e1 := Nat.eq_of_beq_eq_true q1
    have e2 := Nat.eq_of_beq_eq_true q2
    have e3 := ieq_is q3
    obtain ⟨a1, a2⟩ := a
    obtain ⟨b1, b2⟩ := b
    simp only at e2 e3
    subst e1 e2 e3
    exact ⟨h1, h2⟩
  · cases h
noncomputable def Fit (ps : List Pc) : Prop := tlen ps < 1000 ∧ SD.ok 12 (.str ps) = true
theorem run_is {w : List Nat} {n : SD} (h : runF w n = true) : ∃ g1 g2 d ps, (evs tb 28).s (gA w n) [t_4, t_5, t_6] = some (.nx, g1) ∧ (evs tb 28).s { g1 with l := put 12 .map g1.l } [t_8] = some (.nx, g2) ∧ look g2.l 2 = some d ∧ look g2.l 23 = some (.str ps) ∧
    (evs tb 28).c 10 [d] = some (.str ps) ∧ Fit ps ∧ (g1.c = [(20, some n)] ∧ g1.o = []) ∧ (g2.c = [(20, some n)] ∧ g2.o = []) := by
  unfold runF at h
  split at h
  · rename_i g1 h1
    split at h
    · rename_i g2 h2
      split at h
      · rename_i d ps h3 h4
        split at h
        · rename_i qs h5
          simp only [Bool.and_eq_true] at h
          obtain ⟨⟨⟨q1, q2⟩, q3⟩, q4⟩ := h
          have e := all2_is (fun a b => Pc.same_is) q1
          subst e
          exact ⟨g1, g2, d, ps, h1, h2, h3, h4, h5, ⟨Nat.blt_eq.mp q2.1, q2.2⟩, sameN_is q3, sameN_is q4⟩
        · cases h
      · cases h
    · cases h
  · cases h
noncomputable def mapX : X := .cmprT (.tup [.cvr 5 ⟨232, 25, 232, 28⟩, .bin .Mod (.bin .Add (.bin .Mult (.int 5 ⟨232, 31, 232, 32⟩) (.cvr 5 ⟨232, 35, 232, 38⟩) ⟨232, 31, 232, 38⟩) (.fre 20 ⟨232, 41, 232, 42⟩) ⟨232, 31, 232, 42⟩) (.int 9 ⟨232, 46, 232, 47⟩) ⟨232, 30, 232, 47⟩] ⟨232, 24, 232, 48⟩)
  5 ⟨232, 53, 232, 56⟩ (.int 9 ⟨232, 66, 232, 67⟩) ⟨232, 60, 232, 65⟩ ⟨232, 60, 232, 68⟩ (.cmp .NotEq (.bin .Mod (.cvr 5 ⟨232, 72, 232, 75⟩) (.int 4 ⟨232, 78, 232, 79⟩) ⟨232, 72, 232, 79⟩) (.bin .Mod (.fre 20 ⟨232, 83, 232, 84⟩) (.int 4 ⟨232, 87, 232, 88⟩) ⟨232, 83, 232, 88⟩) ⟨232, 72, 232, 88⟩)
  { kind := .function, names := [(Str.ofString ".0", .local), (Str.ofString "one", .local), (Str.ofString "n", .free)], isGenerator := false, isCoroutine := false, more := [] } ⟨232, 23, 232, 89⟩
noncomputable def gM (n : Nat) : G := { l := [], c := [(20, some (.int ⟨0, .ofNat n⟩))], o := [], v := .none }
theorem map_run (n : Nat) (h : n < 13) : (evs tb 28).x false (gM n) mapX = some (.lst ((pairsD n).map pairSD)) := by
  match n, h with
  | 0, _ => kernel_rfl
  | 1, _ => kernel_rfl
  | 2, _ => kernel_rfl
  | 3, _ => kernel_rfl
  | 4, _ => kernel_rfl
  | 5, _ => kernel_rfl
  | 6, _ => kernel_rfl
  | 7, _ => kernel_rfl
  | 8, _ => kernel_rfl
  | 9, _ => kernel_rfl
  | 10, _ => kernel_rfl
  | 11, _ => kernel_rfl
  | 12, _ => kernel_rfl
  | _ + 13, h => exact absurd h (by omega)
theorem words_run : (evs tb 28).c 12 [] = some (.lst (wsL.map fun l => .str [.lit l])) := by kernel_rfl
end RegLaw

namespace RegLaw
open PySem PySem.Calls PySem.W PyProof.Rows

structure LawEnv (env : Env) (cS cN : Addr) : Prop where
  e : EOk env
  cel : ∀ y, env.kindOf y = some .cell → (env.cells.lookup y).isSome = true
  cS : env.cells.lookup ("state" : Str) = some cS
  cN : env.cells.lookup ("n" : Str) = some cN
  kS : env.kindOf "state" = some .cell
  kN : env.kindOf "n" = some .cell
  kWord : env.kindOf "word" = some .local
  kR : env.kindOf "r" = some .local
  kJ : env.kindOf "j" = some .local
  kMap : env.kindOf "mapping" = some .local
  kOps : env.kindOf "ops" = some .local
  kRows : env.kindOf "rows" = some .local
  kRow : env.kindOf "row" = some .local
  kOp : env.kindOf "op" = some .local
  gRange : env.kindOf "range" = some .globalImplicit
  gLen : env.kindOf "len" = some .globalImplicit
  gStr : env.kindOf "str" = some .globalImplicit
  gDict : env.kindOf "dict" = some .globalImplicit
  gWords : env.kindOf "_law_words" = some .globalImplicit
  gPull : env.kindOf "_law_pull" = some .globalImplicit
  c1 : chkSs env.scope [t_4, t_5, t_6] = true
  c2 : chkSs env.scope [t_8] = true
  c3 : chk ⟨env.scope, none⟩ mapX = true
noncomputable def pullsSc : Scope := { kind := .function, names := [(Str.ofString ".0", .local), (Str.ofString "_", .local), (Str.ofString "_law_pull", .globalImplicit), (Str.ofString "state", .free)], isGenerator := false, isCoroutine := false }

noncomputable def RowOK (fz : List (Addr × Obj)) (i : Nat) (v u : Value) : Prop :=
  ∃ V d ps t, Vl.Ok V ∧ VIn V fz v d ∧ (evs tb 28).c 10 [d] = some (.str ps) ∧ Fit ps ∧ u = .str (txt V (cat (cat [.lit (dg i)] [.lit [32]]) ps)) t
structure RowsOK (fz : List (Addr × Obj)) (i : Nat) (vso vsr : List Value) : Prop where
  l1 : vso.length = i
  l2 : vsr.length = i
  row : ∀ (k : Nat) v u, vso[k]? = some v → vsr[k]? = some u → RowOK fz k v u
theorem RowsOK.mono {fz fz' : List (Addr × Obj)} {i : Nat} {vso vsr : List Value} (h : RowsOK fz i vso vsr) (hs : Sub fz fz') : RowsOK fz' i vso vsr :=
  ⟨h.l1, h.l2, fun k v u a b => let ⟨V, d, ps, t, q1, q2, q3, q4, q5⟩ := h.row k v u a b; ⟨V, d, ps, t, q1, q2.mono hs, q3, q4, q5⟩⟩
theorem RowsOK.snoc {fz : List (Addr × Obj)} {i : Nat} {vso vsr : List Value} {v u : Value} (h : RowsOK fz i vso vsr) (q : RowOK fz i v u) : RowsOK fz (i + 1) (vso ++ [v]) (vsr ++ [u]) := by
  refine ⟨by simp [h.l1], by simp [h.l2], fun k v' u' a b => ?_⟩
  by_cases hk : k < i
  · rw [List.getElem?_append_left (by rw [h.l1]; exact hk)] at a
    rw [List.getElem?_append_left (by rw [h.l2]; exact hk)] at b
    exact h.row k v' u' a b
  · have hk2 : k = i := by
      have := (List.getElem?_eq_some_iff.mp a).1
      rw [List.length_append, h.l1] at this
      simp at this
      omega
    subst hk2
    rw [List.getElem?_append_right (by rw [h.l1]; exact Nat.le_refl _), h.l1, Nat.sub_self] at a
    rw [List.getElem?_append_right (by rw [h.l2]; exact Nat.le_refl _), h.l2, Nat.sub_self] at b
    simp at a b
    subst a; subst b
    exact q

theorem list3 {ur : List Value} {v1 v2 v3 : Value} (h : ur.length = 3) (e1 : ur[0]? = some v1) (e2 : ur[1]? = some v2) (e3 : ur[2]? = some v3) : ur = [v1, v2, v3] := by
  cases ur with
  | nil => cases e1
  | cons a ur => cases ur with
    | nil => cases e2
    | cons b ur => cases ur with
      | nil => cases e3
      | cons c ur =>
        cases e1; cases e2; cases e3
        rw [List.length_eq_zero_iff.mp (Nat.succ.inj (Nat.succ.inj (Nat.succ.inj h)))]
theorem list4 {ur : List Value} {v1 v2 v3 v4 : Value} (h : ur.length = 4) (e1 : ur[0]? = some v1) (e2 : ur[1]? = some v2) (e3 : ur[2]? = some v3) (e4 : ur[3]? = some v4) : ur = [v1, v2, v3, v4] := by
  cases ur with
  | nil => cases e1
  | cons a ur =>
    cases e1
    rw [list3 (ur := ur) (Nat.succ.inj h) e2 e3 e4]
theorem getD_lt {us : List Value} {n size : Nat} (h : IntsLt us n size) (j : Nat) (hj : j < n) : ∃ (i : Nat) (t : Tok), us[j]? = some (.int (i : Int) t) ∧ i < size := by
  obtain ⟨h1, h2⟩ := h
  have hj' : j < us.length := by omega
  obtain ⟨i, t, e, hi⟩ := h2 us[j] (List.getElem_mem hj')
  exact ⟨i, t, by rw [List.getElem?_eq_getElem hj', e], hi⟩
theorem kept_ops {m m' : Str → Option Value} (h : Kept m m') : m' "ops" = m "ops" := h "ops" (by decide +kernel)
theorem kept_rows {m m' : Str → Option Value} (h : Kept m m') : m' "rows" = m "rows" := h "rows" (by decide +kernel)
theorem kept_script {m m' : Str → Option Value} (h : Kept m m') : m' "turn" = m "turn" := h "turn" (by decide +kernel)

section
variable {prog : Program} {w : World} {A : Around} {p : Program} {loose : List Str} {mean : ExcName → Option Value} {mg mb : Str → Option Value} {env : Env} {h₀ : Heap} {s₀ : Shared} {cS cN sd oa ra sl : Addr} {vs : List Value} {ns : List Int}
/- the law's ledger -/
noncomputable def ld (cN cS sd oa ra sl : Addr) (oN oS od oO oR oL : Obj) (it : List (Addr × Obj)) : List (Addr × Obj) := [(cN, oN), (cS, oS)] ++ ([] ++ ((sd, od) :: (oa, oO) :: (ra, oR) :: (sl, oL) :: it))

theorem pull_eval {size : Nat} {a b c d : Pos} {oN oS od oO oR oL : Obj} {it fz : List (Addr × Obj)} {m : Str → Option Value} {at_ : Nat} {s : Shared} {Q : Value → Shared → Prop}
    (LE : LawEnv env cS cN) (C : FOk (hd.heap_39 w.params) p loose mean mg mb ⟨h₀, env.locals, m, ld cN cS sd oa ra sl oN oS od oO oR oL it, s₀⟩ A 2) (H : Hp ⟨h₀, env.locals, m, ld cN cS sd oa ra sl oN oS od oO oR oL it, s₀⟩ fz s)
    (hoS : oS.data = .cell (some (.ref sd))) (hst : StObj prog w sl at_ od) (hat : at_ ≤ 1000) (hL : SeqObj "list" vs oL) (hI : IntsAre vs ns) (hlen : vs.length ≤ 1000) (hsz : 0 < size) (hsz2 : size ≤ 1000)
    (k : ∀ s' od' i t, StObj prog w sl (at_ + 1) od' → Hp ⟨h₀, env.locals, m, ld cN cS sd oa ra sl oN oS od' oO oR oL it, s₀⟩ fz s' → i < size → Q (.int ((i : Nat) : Int) t) s') :
    wpAny (model prog w) A (eval (.Call (.Name "_law_pull" a) [.Name "state" b, .Constant (.int (size : Int)) 0 c] [] d) env) Q No s := by
  refine Call_ (name_G (v := .ref 126) C LE.e H LE.gPull (by kernel_rfl) (by decide) ?_)
  refine callWith_K C.kin (by kernel_rfl) ?_ (by rfl) (by rfl)
  refine spliced_more ?_ (by rfl)
  refine wpAny_Name (wpAny_loadName_cell LE.e.k LE.kS LE.cS ⟨oS, H.nw.get (List.mem_append_right _ (.tail _ (.head _))), hoS⟩ ?_)
  refine spliced_more (wpAny_Constant_int (spliced_none ?_)) (by rfl)
  have HC := H.tok (s.toks + 1)
  refine ⟨C.kin.keeps HC.fr.keep, ?_⟩
  exact pull_ok (F := ⟨h₀, env.locals, m, [], s₀⟩) (k1 := [(cN, oN), (cS, oS)]) (k2 := (oa, oO) :: (ra, oR) :: (sl, oL) :: it) (C.any (F' := ⟨h₀, env.locals, m, [], s₀⟩) rfl rfl) HC hst (List.mem_append_right _ (.tail _ (.tail _ (.head _)))) hL hI hlen hat hsz hsz2 fun s' od' i t q1 q2 q3 => k s' od' i t q1 q2 q3
theorem state_sc (LE : LawEnv env cS cN) : ScOk env pullsSc "_" [("state", cS)] :=
  ⟨by
    show (match env.cells.lookup (Str.ofString "state") with | some a => closL env.cells [] ((Str.ofString "state", a) :: []) | none => none) = _
    rw [LE.cS]; rfl, by decide, rfl, by decide, by rfl⟩
/- word, r, j, n drawn -/
theorem draw_ok {oN oS od oO oR oL : Obj} {it fz : List (Addr × Obj)} {m : Str → Option Value} {at_ : Nat} {ov : Option Value} {s : Shared} {rest : List Stmt} {Q : Flow → Shared → Prop}
    {p1 p2 p3 p4 p5 p6 p7 p8 p9 : Pos} {r1 r2 r3 r4 r5 r6 r7 r8 r9 r10 r11 : Pos} {j1 j2 j3 j4 j5 j6 j7 j8 j9 j10 j11 : Pos} {n1 n2 n3 n4 n5 n6 : Pos}
    (LE : LawEnv env cS cN) (C : FOk (hd.heap_39 w.params) p loose mean mg mb ⟨h₀, env.locals, m, ld cN cS sd oa ra sl oN oS od oO oR oL it, s₀⟩ A 30) (H : Hp ⟨h₀, env.locals, m, ld cN cS sd oa ra sl oN oS od oO oR oL it, s₀⟩ fz s)
    (hoS : oS.data = .cell (some (.ref sd))) (hoN : oN.data = .cell ov) (hst : StObj prog w sl at_ od) (hat : at_ + 9 ≤ 1000) (hL : SeqObj "list" vs oL) (hI : IntsAre vs ns) (hlen : vs.length ≤ 1000)
    (hr1 : Nat.beq r10.line r8.line = true) (hj1 : Nat.beq j10.line j8.line = true)
    (k : ∀ s' od' oN' wi t vw Dr Dj ur uj tn fz', Sub fz fz' → Tn.Ok t → wi < 31 → vw = .str ⟨(wsL.getD wi []).toArray⟩ tn →
      Hp ⟨h₀, env.locals, setM (setM (setM m 16 vw) 18 (.ref Dr)) 29 (.ref Dj), ld cN cS sd oa ra sl oN' oS od' oO oR oL it, s₀⟩ fz' s' → StObj prog w sl (at_ + 9) od' → (Dr, LCg.lst ur) ∈ fz' → (Dj, LCg.lst uj) ∈ fz' →
      (∃ t1 t2 t3 t4, ur = [.int t.a t1, .int t.b t2, .int t.c t3, .int t.d t4]) → (∃ t1 t2 t3, uj = [.int t.e t1, .int t.f t2, .int t.g t3]) → (∃ t1, oN'.data = .cell (some (.int t.n t1))) → wpAny (model prog w) A (execs rest env) Q No s') :
    wpAny (model prog w) A (execs (
      .Assign [.Name "word" p1] (.Subscript (.Call (.Name "_law_words" p2) [] [] p3) (.Call (.Name "_law_pull" p4) [.Name "state" p5, .Constant (.int 31) 0 p6] [] p7) p8) p9 ::
      .Assign [.Name "r" r10] (.ListComp (.Call (.Name "_law_pull" r1) [.Name "state" r2, .Constant (.int 9) 0 r3] [] r4) [⟨.Name "_" r5, .Call (.Name "range" r6) [.Constant (.int 4) 0 r7] [] r9, [], 0⟩] pullsSc r8) r11 ::
      .Assign [.Name "j" j10] (.ListComp (.Call (.Name "_law_pull" j1) [.Name "state" j2, .Constant (.int 12) 0 j3] [] j4) [⟨.Name "_" j5, .Call (.Name "range" j6) [.Constant (.int 3) 0 j7] [] j9, [], 0⟩] pullsSc j8) j11 ::
      .Assign [.Name "n" n1] (.Call (.Name "_law_pull" n2) [.Name "state" n3, .Constant (.int 13) 0 n4] [] n5) n6 :: rest) env) Q No s := by
  obtain ⟨E, SO, CO⟩ := all_sound (prog := prog) (w := w) (p := p) (loose := loose) (mean := mean) (mg := mg) (mb := mb) V0_ok (k_ok w) (tb_ok w.params) 28
  have C2 : ∀ {m : Str → Option Value} {keep : List (Addr × Obj)}, FOk (hd.heap_39 w.params) p loose mean mg mb ⟨h₀, env.locals, m, keep, s₀⟩ A 2 := ⟨C.below, C.kin, C.top, C.handled, C.guards, by have := C.depth; omega, by have := C.units; omega⟩
  have C28 : ∀ {m : Str → Option Value} {keep : List (Addr × Obj)}, FOk (hd.heap_39 w.params) p loose mean mg mb ⟨h₀, env.locals, m, keep, s₀⟩ A 28 := ⟨C.below, C.kin, C.top, C.handled, C.guards, by have := C.depth; omega, by have := C.units; omega⟩
  -- word
  refine wpAny_execs_cons (wpAny_Assign_Name (Subscript_ ?_))
  have hw := ev_call (f := 12) (es := []) (q := p2) (r := p3) (ds := []) (C28 (m := m) (keep := ld cN cS sd oa ra sl oN oS od oO oR oL it)) LE.e LE.gWords CO (fz₀ := fz) (fun pos => el_all (es := []) (ds := []) (fun i e d h => by simp at h) rfl) rfl words_run
  rw [pys] at hw
  refine hw fz s _ (Sub.refl _) H fun u s₁ fz₁ h1 H₁ hu => ?_
  refine pull_eval (size := 31) LE C2 H₁ hoS hst (by omega) hL hI hlen (by decide) (by decide) fun s₂ od₂ wi tk hst₂ H₂ hwi => ?_
  have hwd : ∃ wd, wsL[wi]? = some wd := ⟨wsL[wi]'(by have : wsL.length = 31 := by decide
                                                      omega), by simp⟩
  obtain ⟨wd, hwd⟩ := hwd
  have hitem : item (.lst (wsL.map fun l => .str [.lit l])) wi = some (.str [.lit wd]) := by
    simp only [item, List.getElem?_map, hwd, Option.map_some]
  have hnat : natOf (.int ⟨0, .ofNat wi⟩) = some wi := by
    have e : Nat.blt wi 1000 = true := by rw [Nat.blt_eq]; omega
    simp only [natOf, e]
  have hiv : VIn V0 fz₁ (.int (wi : Int) tk) (.int ⟨0, .ofNat wi⟩) := by
    have e : (wi : Int) = (IE.mk 0 (Int.ofNat wi)).ev V0 := by rw [ev_const V0_ok]; rfl
    rw [e]; exact .int _ _
  refine item_sound V0_ok hnat hitem (by intro l u st q e; cases e) hu hiv fz₁ s₂ _ (Sub.refl _) H₂ fun vw s₃ fz₂ h2 H₃ hvw => ?_
  cases hvw with
  | str _ tw =>
  refine st_l H₃ LE.e rfl LE.kWord fun s₄ H₄ => ?_
  -- r
  refine wpAny_execs_cons ?_
  refine pulls_assign (F := ⟨h₀, env.locals, setM m 16 (.str (txt V0 [.lit wd]) tw), [], s₀⟩) (k1 := [(cN, oN), (cS, oS)]) (k2 := (oa, oO) :: (ra, oR) :: (sl, oL) :: it) (size := 9) (n := 4) (e1 := r1) (e2 := r1) (fun _ => C2) LE.e rfl (state_sc LE) LE.kS rfl rfl LE.gRange LE.kR (swaps_comp LE.kR LE.e.k hr1 (by decide) _) rfl (.tail _ (.head _)) hoS
    (List.mem_append_right _ (.tail _ (.tail _ (.head _)))) hL hI hlen (by decide) (by decide) (by decide) (by omega) hst₂ H₄ fun s₅ od₅ Dr ur fz₃ h3 hst₅ hur H₅ => ?_
  -- j
  refine wpAny_execs_cons ?_
  refine pulls_assign (F := ⟨h₀, env.locals, setM (setM m 16 (.str (txt V0 [.lit wd]) tw)) 18 (.ref Dr), [], s₀⟩) (k1 := [(cN, oN), (cS, oS)]) (k2 := (oa, oO) :: (ra, oR) :: (sl, oL) :: it) (size := 12) (n := 3) (e1 := r1) (e2 := r1) (fun _ => C2) LE.e rfl (state_sc LE) LE.kS rfl rfl LE.gRange LE.kJ (swaps_comp LE.kJ LE.e.k hj1 (by decide) _) rfl (.tail _ (.head _)) hoS
    (List.mem_append_right _ (.tail _ (.tail _ (.head _)))) hL hI hlen (by decide) (by decide) (by decide) (by omega) hst₅ H₅ fun s₆ od₆ Dj uj fz₄ h4 hst₆ huj H₆ => ?_
  -- n
  refine wpAny_execs_cons (wpAny_Assign_Name ?_)
  refine pull_eval (size := 13) (m := setM (setM (setM m 16 (.str (txt V0 [.lit wd]) tw)) 18 (.ref Dr)) 29 (.ref Dj)) LE C2 H₆ hoS hst₆ (by omega) hL hI hlen (by decide) (by decide) fun s₇ od₇ nv tn hst₇ H₇ hnv => ?_
  refine wpAny_storeName_cell LE.e.k LE.kN LE.cN ⟨oN, H₇.nw.get (List.mem_append_right _ (.head _)), hoN⟩ fun h' hc hs => ?_
  obtain ⟨oN', hoN', hdN'⟩ := hc
  have H₈ := Hp.upd (F := ⟨h₀, env.locals, _, [], s₀⟩) (k1 := []) (t := s₇.toks) H₇ hs hoN'
  obtain ⟨a1, b1, e1, f1⟩ := getD_lt hur 0 (by decide)
  obtain ⟨a2, b2, e2, f2⟩ := getD_lt hur 1 (by decide)
  obtain ⟨a3, b3, e3, f3⟩ := getD_lt hur 2 (by decide)
  obtain ⟨a4, b4, e4, f4⟩ := getD_lt hur 3 (by decide)
  obtain ⟨c1, d1, g1, i1⟩ := getD_lt huj 0 (by decide)
  obtain ⟨c2, d2, g2, i2⟩ := getD_lt huj 1 (by decide)
  obtain ⟨c3, d3, g3, i3⟩ := getD_lt huj 2 (by decide)
  have hlr := hur.1
  have hlj := huj.1
  refine k _ od₇ oN' wi ⟨a1, a2, a3, a4, c1, c2, c3, nv⟩ _ Dr Dj ur uj tw ((Dj, LCg.lst uj) :: fz₄) ?_ ⟨f1, f2, f3, f4, i1, i2, i3, hnv⟩ hwi ?_ H₈ ?_ ?_ ?_ ?_ ?_ ⟨_, hdN'⟩
  · exact ((h1.trans h2).trans h3).trans (((Sub.cons _).trans h4).trans (Sub.cons _))
  · rw [List.getD_eq_getElem?_getD, hwd]
    simp [txt, csOf, Pc.cs]
  · have e : at_ + 1 + 4 + 3 + 1 = at_ + 9 := by omega
    rw [e] at hst₇; exact hst₇
  · exact .tail _ (h4 _ (.head _))
  · exact .head _
  · exact ⟨b1, b2, b3, b4, list4 hlr e1 e2 e3 e4⟩
  · exact ⟨d1, d2, d3, list3 hlj g1 g2 g3⟩
end
end RegLaw

namespace RegLaw
open PySem PySem.Calls PySem.W PyProof.Rows

theorem boot_dict : bootBuiltins "dict" = some (.type "dict") := by boot_by_name
section
variable {prog : Program} {w : World} {F : Fx} {A : Around} {fz : List (Addr × Obj)} {K : Frag} {p : Program} {loose : List Str} {mean : ExcName → Option Value} {mg mb : Str → Option Value} {n : Nat}
/- dict of the list of the turn's pairs -/
theorem op_dict {t : Tn} (ht : t.Ok) {u : Value} (C : FOk K p loose mean mg mb F A n) (hu : VIn t.vl fz u (.lst ((pairsD t.n).map pairSD))) : EvV prog w t.vl F A (call (.type "dict") [u]) fz .map := by
  cases hu with
  | @lst l o vs _ hm kk rr =>
    intro fz₁ s Q hs H k
    obtain ⟨nn, rfl⟩ := kk
    obtain ⟨prs, q1, q2⟩ := prs_of (Tn.ok ht) rr
    have hlen := rr.length
    rw [List.length_map, ← q1.len] at hlen
    have h9 : prs.length ≤ 9 := by
      rw [q1.len]
      unfold pairsD
      rw [List.length_map]
      exact Nat.le_trans (List.length_filter_le _ _) (by simp)
    refine dict_pairs (prs := prs) C.handled (H.get (hs _ hm)) (by omega) hlen.symm (fun j v p' h1 h2 => ?_) fun h' tk hd hk => ?_
    · obtain ⟨a, o, tt, e1, e2, ⟨n2, rfl⟩⟩ := q2 j v p' h1 h2
      exact ⟨a, tt, e1, _, H.get (hs _ e2), rfl, n2, rfl⟩
    · obtain ⟨oD, hoD, hdD⟩ := Heap.dictOf_iff.mp hd
      have e : prs.foldl (fun c p => stored c p.1 p.2) [] = prs := merged_nil_of_nodup prs (by rw [q1.keys]; exact pairs_nodup t.n)
      rw [e] at hdD
      refine k (.ref s.heap.objs.size) _ ((s.heap.objs.size, oD) :: fz₁) (Sub.cons _) (H.add (H.fr.keeps hk) ?_ fun q hq => H.lt q hq) (.map (.head _) (map_obj q1 hdD) (H.fr.notModules (modules_low C.top.nolimit)))
      intro q hq
      rcases List.mem_cons.mp hq with rfl | hq
      · exact ⟨hoD, Nat.ne_of_gt H.fr.ns.lt, next_is_new H.fr⟩
      · exact ⟨hk _ _ (H.nw q hq).1, (H.nw q hq).2⟩
end
end RegLaw

namespace RegLaw
open PySem PySem.Calls PySem.W PyProof.Rows

section
variable {prog : Program} {w : World} {A : Around} {p : Program} {loose : List Str} {mean : ExcName → Option Value} {mg mb : Str → Option Value} {env : Env} {h₀ : Heap} {s₀ : Shared} {cS cN sd oa ra sl : Addr} {vs : List Value} {ns : List Int}
theorem VIn.int_to {V : Vl} {fz : List (Addr × Obj)} {a b : IE} {v : Value} (h : VIn V fz v (.int a)) (e : a.ev V = b.ev V) : VIn V fz v (.int b) := by
  cases h with
  | int _ t => rw [e]; exact .int _ _
theorem nD_in {t : Tn} {fz : List (Addr × Obj)} (ht : t.Ok) (i : Nat) (tk : Tok) : VIn t.vl fz (.int (t.n : Int) tk) (nD i t.n) := by
  unfold nD
  split
  · have e : (t.n : Int) = (IE.mk 0 (Int.ofNat t.n)).ev t.vl := by rw [ev_const (Tn.ok ht)]; rfl
    rw [e]; exact .int _ _
  · have e : (t.n : Int) = (IE.mk 20 0).ev t.vl := by simp [IE.ev, Tn.vl, Tn.base]
    rw [e]; exact .int _ _
theorem nD_of {t : Tn} {fz : List (Addr × Obj)} {v : Value} (ht : t.Ok) {i : Nat} (h : VIn t.vl fz v (nD i t.n)) : VIn t.vl fz v (.int ⟨0, .ofNat t.n⟩) := by
  unfold nD at h
  split at h
  · exact h
  · exact h.int_to (by rw [ev_const (Tn.ok ht)]; simp [IE.ev, Tn.vl, Tn.base])

theorem mid_ok {oN oS od oO oR oL : Obj} {it fz : List (Addr × Obj)} {m : Str → Option Value} {s : Shared} {rest : List Stmt} {Q : Flow → Shared → Prop} {t : Tn} {wi : Nat} {tw : Tok} {Dr Dj : Addr} {ur uj : List Value}
    {p1 p2 p3 p4 : Pos}
    (LE : LawEnv env cS cN) (C : FOk (hd.heap_39 w.params) p loose mean mg mb ⟨h₀, env.locals, m, ld cN cS sd oa ra sl oN oS od oO oR oL it, s₀⟩ A 30) (H : Hp ⟨h₀, env.locals, m, ld cN cS sd oa ra sl oN oS od oO oR oL it, s₀⟩ fz s)
    (ht : t.Ok) (hwi : wi < 31) (hm16 : m (nm 16) = some (.str ⟨(wsL.getD wi []).toArray⟩ tw)) (hm18 : m (nm 18) = some (.ref Dr)) (hm29 : m (nm 29) = some (.ref Dj)) (hDr : (Dr, LCg.lst ur) ∈ fz) (hDj : (Dj, LCg.lst uj) ∈ fz)
    (hur : ∃ t1 t2 t3 t4, ur = [.int t.a t1, .int t.b t2, .int t.c t3, .int t.d t4]) (huj : ∃ t1 t2 t3, uj = [.int t.e t1, .int t.f t2, .int t.g t3]) (hoN : ∃ t1, oN.data = .cell (some (.int t.n t1)))
    (k : ∀ s' m' fz' oN' v d ps tk, Sub fz fz' → Kept m m' → Hp ⟨h₀, env.locals, m', ld cN cS sd oa ra sl oN' oS od oO oR oL it, s₀⟩ fz' s' → (∃ ov, oN'.data = .cell ov) → m' (nm 2) = some v → VIn t.vl fz' v d → m' (nm 23) = some (.str (txt t.vl ps) tk) →
      (evs tb 28).c 10 [d] = some (.str ps) → Fit ps → wpAny (model prog w) A (execs rest env) Q No s') :
    wpAny (model prog w) A (execs (spys [t_4, t_5, t_6] ++ (.Assign [.Name "mapping" p1] (.Call (.Name "dict" p2) [mapX.py] [] p3) p4 :: (spys [t_8] ++ rest))) env) Q No s := by
  have hV := Tn.ok ht
  obtain ⟨E, SO, CO⟩ := all_sound (prog := prog) (w := w) (p := p) (loose := loose) (mean := mean) (mg := mg) (mb := mb) hV (k_ok w) (tb_ok w.params) 27
  obtain ⟨E28, _, _⟩ := all_sound (prog := prog) (w := w) (p := p) (loose := loose) (mean := mean) (mg := mg) (mb := mb) hV (k_ok w) (tb_ok w.params) 28
  have C27 : ∀ {m : Str → Option Value} {keep : List (Addr × Obj)}, FOk (hd.heap_39 w.params) p loose mean mg mb ⟨h₀, env.locals, m, keep, s₀⟩ A 27 := ⟨C.below, C.kin, C.top, C.handled, C.guards, by have := C.depth; omega, by have := C.units; omega⟩
  have C28 : ∀ {m : Str → Option Value} {keep : List (Addr × Obj)}, FOk (hd.heap_39 w.params) p loose mean mg mb ⟨h₀, env.locals, m, keep, s₀⟩ A 28 := ⟨C.below, C.kin, C.top, C.handled, C.guards, by have := C.depth; omega, by have := C.units; omega⟩
  obtain ⟨wd, hwd⟩ : ∃ wd, wsL[wi]? = some wd := ⟨wsL[wi]'(by have : wsL.length = 31 := by decide
                                                              omega), by simp⟩
  rw [List.getD_eq_getElem?_getD, hwd, Option.getD_some] at hm16
  obtain ⟨g1, g2, d, ps, e1, e2, e3, e4, e5, e6, ⟨e7, e8⟩, e9, e10⟩ := run_is (run_all wi t.n wd hwd ht.n)
  obtain ⟨tn, hoN⟩ := hoN
  let R : Rc := ⟨h₀, env, (cS, oS) :: (sd, od) :: (oa, oO) :: (ra, oR) :: (sl, oL) :: it, s₀⟩
  have RO : RcOk R := ⟨LE.e, LE.cel⟩
  have iv : ∀ {a : Nat} {tk : Tok} {b : IE}, (a : Int) = b.ev t.vl → VIn t.vl fz (.int (a : Int) tk) (.int b) := fun e => by rw [e]; exact .int _ _
  have HS : SR R t.vl (gA wd (nD wi t.n)) m fz [(cN, oN)] [] s := by
    refine ⟨H, fun x dd hx => ?_, .cons LE.cN LE.kN hoN (fun dd e => by cases e; exact ⟨_, rfl, nD_in ht wi tn⟩) .nil, .nil⟩
    simp only [gA, look] at hx
    split at hx
    · rename_i e
      have e := Nat.eq_of_beq_eq_true e
      subst e
      cases hx
      refine ⟨by decide, _, hm16, ?_⟩
      have e0 : (⟨wd.toArray⟩ : Str) = txt t.vl [.lit wd] := by simp [txt, csOf, Pc.cs]
      rw [e0]
      exact .str _ _
    · split at hx
      · rename_i e
        have e := Nat.eq_of_beq_eq_true e
        subst e
        cases hx
        obtain ⟨t1, t2, t3, t4, rfl⟩ := hur
        refine ⟨by decide, _, hm18, .lst hDr ⟨_, rfl⟩ (.cons (iv ?_) (.cons (iv ?_) (.cons (iv ?_) (.cons (iv ?_) .nil))))⟩ <;> simp [IE.ev, Tn.vl, Tn.base]
      · split at hx
        · rename_i e
          have e := Nat.eq_of_beq_eq_true e
          subst e
          cases hx
          obtain ⟨t1, t2, t3, rfl⟩ := huj
          refine ⟨by decide, _, hm29, .lst hDj ⟨_, rfl⟩ (.cons (iv ?_) (.cons (iv ?_) (.cons (iv ?_) .nil)))⟩ <;> simp [IE.ev, Tn.vl, Tn.base]
        · cases hx
  refine seq_rest (R := R) (ss := [t_4, t_5, t_6]) hV (k_ok w) E SO RO C27 e1 LE.c1 HS ?_
  intro m1 fz1 cells1 ow1 s1 f1 k1 H1
  -- the ledger's shape again
  have hshape : ∃ c o ov, cells1 = [(c, o)] ∧ ow1 = [] ∧ env.cells.lookup ("n" : Str) = some c ∧ o.data = .cell (some ov) ∧ VIn t.vl fz1 ov (.int ⟨0, .ofNat t.n⟩) := by
    have hc := H1.cel
    have ho := H1.own
    rw [e7] at hc
    rw [e8] at ho
    cases ho
    cases hc with
    | cons q1 q2 q3 q4 q5 =>
      cases q5
      obtain ⟨v, rfl, hv⟩ := q4 _ rfl
      exact ⟨_, _, v, rfl, rfl, q1, q3, nD_of ht hv⟩
  obtain ⟨c, o1, ov, rfl, rfl, q1, q2, q3⟩ := hshape
  have hcc : c = cN := by
    have := LE.cN
    rw [q1] at this
    exact Option.some.inj this
  subst hcc
  -- mapping
  have HM : SR R t.vl (gM t.n) m1 fz1 [(c, o1)] [] s1 := ⟨H1.hp, fun x dd hx => by simp [gM, look] at hx, .cons LE.cN LE.kN q2 (fun dd e => by cases e; exact ⟨_, rfl, q3⟩) .nil, .nil⟩
  refine wpAny_execs_cons (wpAny_Assign_Name (hs := rfl) ?_)
  have hmx := ex_v (R := R) (E := E28) C28 RO (map_run t.n ht.n) LE.c3 HM
  refine ev_ty1 (x := "dict") (id := "dict") (e := mapX) (C28 (m := m1)) LE.e LE.gDict (by kernel_rfl) boot_dict (by decide) (by decide) hmx (fun fz' u hs hu => op_dict ht (C28 (m := m1)) hu) fz1 s1 _ (Sub.refl _) H1.hp fun v s2 fz2 f2 H2 hv => ?_
  have hset : g1.setL 12 .map = some { g1 with l := put 12 .map g1.l } := by
    unfold G.setL
    rw [e8]
    rfl
  refine st_local (R := R) (x := 12) RO (H1.up f2 H2) LE.kMap hset hv fun s3 H3 => ?_
  refine seq_rest (R := R) (ss := [t_8]) hV (k_ok w) E SO RO C27 e2 LE.c2 H3 ?_
  intro m4 fz4 cells4 ow4 s4 f4 k4 H4
  have hshape : ∃ c' o ov, cells4 = [(c', o)] ∧ ow4 = [] ∧ env.cells.lookup ("n" : Str) = some c' ∧ o.data = .cell ov := by
    have hc := H4.cel
    have ho := H4.own
    rw [e9] at hc
    rw [e10] at ho
    cases ho
    cases hc with
    | cons q1 q2 q3 q4 q5 =>
      cases q5
      exact ⟨_, _, _, rfl, rfl, q1, q3⟩
  obtain ⟨c', o4, ov4, rfl, rfl, r1, r2⟩ := hshape
  have hcc : c' = c := by
    have := LE.cN
    rw [r1] at this
    exact Option.some.inj this
  subst hcc
  obtain ⟨_, v2, a1, a2⟩ := H4.loc 2 d e3
  obtain ⟨_, v3, b1, b2⟩ := H4.loc 23 _ e4
  cases b2 with
  | str _ tk =>
    exact k s4 m4 fz4 o4 v2 d ps tk ((f1.trans f2).trans f4) (k1.trans ((Kept.set (by decide)).trans k4)) H4.hp ⟨_, r2⟩ a1 a2 b1 e5 e6
end
end RegLaw

namespace RegLaw
open PySem PySem.Calls PySem.W PyProof.Rows

section
variable {prog : Program} {w : World} {A : Around} {p : Program} {loose : List Str} {mean : ExcName → Option Value} {mg mb : Str → Option Value} {env : Env} {h₀ : Heap} {s₀ : Shared} {cS cN sd oa ra sl : Addr}
theorem tail_ok {oN oS od oO oR oL : Obj} {it fz : List (Addr × Obj)} {m : Str → Option Value} {s : Shared} {rest : List Stmt} {Q : Flow → Shared → Prop} {V : Vl} {i : Nat} {vso vsr : List Value} {v : Value} {d : SD} {ps : List Pc} {tk : Tok}
    {a1 a2 a3 a4 a5 a6 a7 a8 a9 a10 a11 a12 a13 : Pos} {b1 b2 b3 b4 b5 : Pos}
    (LE : LawEnv env cS cN) (C : FOk (hd.heap_39 w.params) p loose mean mg mb ⟨h₀, env.locals, m, ld cN cS sd oa ra sl oN oS od oO oR oL it, s₀⟩ A 30) (H : Hp ⟨h₀, env.locals, m, ld cN cS sd oa ra sl oN oS od oO oR oL it, s₀⟩ fz s)
    (hV : V.Ok) (hO : SeqObj "list" vso oO) (hR : SeqObj "list" vsr oR) (hmO : m "ops" = some (.ref oa)) (hmR : m "rows" = some (.ref ra)) (hrows : RowsOK fz i vso vsr) (hi : i < 90)
    (h2 : m (nm 2) = some v) (hv : VIn V fz v d) (h23 : m (nm 23) = some (.str (txt V ps) tk)) (hs : (evs tb 28).c 10 [d] = some (.str ps)) (hps : Fit ps) (hl1 : (a2.endLine == a12.line) = true) (hl2 : (b2.endLine == b4.line) = true)
    (k : ∀ s' fz' oO' oR' vso' vsr', Sub fz fz' → Hp ⟨h₀, env.locals, m, ld cN cS sd oa ra sl oN oS od oO' oR' oL it, s₀⟩ fz' s' → SeqObj "list" vso' oO' → SeqObj "list" vsr' oR' → RowsOK fz' (i + 1) vso' vsr' → wpAny (model prog w) A (execs rest env) Q No s') :
    wpAny (model prog w) A (execs (
      .Expr (.Call (.Attribute (.Name "rows" a1) "append" a2) [.BinOp (.BinOp (.Call (.Name "str" a3) [.Call (.Name "len" a4) [.Name "ops" a5] [] a6] [] a7) .Add (.Constant (.str " ") 0 a8) a9) .Add (.Name "row" a10) a11] [] a12) a13 ::
      .Expr (.Call (.Attribute (.Name "ops" b1) "append" b2) [.Name "op" b3] [] b4) b5 :: rest) env) Q No s := by
  have KK := k_ok w
  have hps1 := hps.1
  have hint : interactive env = false := by unfold interactive; rw [LE.e.k]; rfl
  obtain ⟨kO, rfl⟩ := hO
  obtain ⟨kR, rfl⟩ := hR
  have lO := hrows.l1
  have lR := hrows.l2
  have memO : ∀ {oO oR : Obj}, (oa, oO) ∈ ld cN cS sd oa ra sl oN oS od oO oR oL it := .tail _ (.tail _ (.tail _ (.head _)))
  have memR : ∀ {oO oR : Obj}, (ra, oR) ∈ ld cN cS sd oa ra sl oN oS od oO oR oL it := .tail _ (.tail _ (.tail _ (.tail _ (.head _))))
  refine wpAny_execs_cons (wpAny_Expr ?_ hint rfl)
  refine Call_method1 (isNm_base (e := .loc 40 a1) rfl _ _) (by rfl) hl1 ?_
  refine nm_l H LE.e rfl LE.kRows hmR (by decide) ?_
  have gR := H.nw.get (List.mem_append_right fz (memR (oO := { cls := .type "list", data := .seq vso.toArray kO }) (oR := { cls := .type "list", data := .seq vsr.toArray kR })))
  refine ⟨"list", "list.append", PySem.F.plainAttrs_list, PySem.F.slot_list_append, PySem.F.type_list_append, ⟨_, gR, rfl⟩, (fun a ea => by cases ea; exact ⟨_, gR, rfl⟩), ?_⟩
  refine Calls.callWith_builtin rfl (Calls.evalArgs_plain (Calls.spliced_cons ?_))
  refine wpAny_BinOp (wpAny_BinOp ?_)
  refine Call_ (name_Bi C LE.e H LE.gStr KK.str boot_str (by decide) (by decide) ?_)
  refine callWith_type1 ?_ (by rfl) rfl
  refine spliced_more ?_ (by rfl)
  refine Call_ (name_Bi C LE.e H LE.gLen KK.len boot_len (by decide) (by decide) ?_)
  refine callWith_method1 (first := []) ?_ (by rfl) rfl
  refine spliced_more ?_ (by rfl)
  refine nm_l H LE.e rfl LE.kOps hmO (by decide) (spliced_none ?_)
  have gO := H.nw.get (List.mem_append_right fz (memO (oO := { cls := .type "list", data := .seq vso.toArray kO }) (oR := { cls := .type "list", data := .seq vsr.toArray kR })))
  refine call_len_list ⟨_, gO, rfl, kO, rfl⟩ (by rw [List.size_toArray]; omega) ?_
  refine spliced_none ?_
  have H₁ := H.tok (s.toks + 1 + 1)
  have hstr : strOfD (.int ⟨0, .ofNat i⟩) = some (.str [.lit (dg i)]) := by
    have e : Nat.blt i 100 = true := by rw [Nat.blt_eq]; omega
    simp only [strOfD, numText, e]
  have hiv : VIn V fz (.int ((vso.toArray.size : Nat) : Int) (s.toks + 1)) (.int ⟨0, .ofNat i⟩) := by
    have e : ((vso.toArray.size : Nat) : Int) = (IE.mk 0 (Int.ofNat i)).ev V := by rw [ev_const hV, List.size_toArray, lO]; rfl
    rw [e]; exact .int _ _
  refine op_str hstr hV C hiv fz _ _ (Sub.refl _) H₁ fun u s₂ fz₂ f1 H₂ hu => ?_
  have hsp : (Str.ofString " ") = txt V [.lit [32]] := rfl
  have hdg : (dg i).length ≤ 2 := by
    unfold dg
    split <;> simp
  have lps := tlen_is hV (ps := ps) (by omega)
  have slg := sizeLine_ge
  cases hu with
  | str _ t1 =>
  refine Calls.Constant_str ?_
  rw [hsp]
  refine SBL.add (fun t2 k2 _ => ?_) (by rw [txt_len, txt_len]; simp [csOf, Pc.cs]; omega)
  rw [← txt_cat]
  have H₃ := H₂.tok k2
  refine nm_l H₃ LE.e rfl LE.kRow h23 (by decide) ?_
  refine SBL.add (fun t3 k3 _ => ?_) (by
    rw [txt_cat]
    have e1 : (txt V [.lit (dg i)] ++ txt V [.lit [32]]).length = (dg i).length + 1 := by
      rw [Str.length_append, txt_len, txt_len]; simp [csOf, Pc.cs]
    rw [e1, txt_len]; omega)
  rw [← txt_cat]
  have H₄ := H₃.tok k3
  refine Calls.spliced_nil ?_
  -- the row behind the rows
  refine append_at (H₄.nw.get (List.mem_append_right fz₂ (memR (oO := { cls := .type "list", data := .seq vso.toArray kO }) (oR := { cls := .type "list", data := .seq vsr.toArray kR })))) (fun h' hs' ho' => ?_) (by rw [List.size_toArray]; omega)
  have H₅ := Hp.upd (F := ⟨h₀, env.locals, m, [], s₀⟩) (k1 := [(cN, oN), (cS, oS), (sd, od), (oa, { cls := .type "list", data := .seq vso.toArray kO })]) (t := k3) H₄ hs' ho'
  -- the instruction behind the others
  refine wpAny_execs_cons (wpAny_Expr ?_ hint rfl)
  refine Call_method1 (isNm_base (e := .loc 39 b1) rfl _ _) (by rfl) hl2 ?_
  refine nm_l H₅ LE.e rfl LE.kOps hmO (by decide) ?_
  have gO₅ := H₅.nw.get (List.mem_append_right fz₂ (.tail _ (.tail _ (.tail _ (.head _)))))
  refine ⟨"list", "list.append", PySem.F.plainAttrs_list, PySem.F.slot_list_append, PySem.F.type_list_append, ⟨_, gO₅, rfl⟩, (fun a ea => by cases ea; exact ⟨_, gO₅, rfl⟩), ?_⟩
  refine Calls.callWith_builtin rfl (Calls.evalArgs_plain (Calls.spliced_cons ?_))
  refine nm_l H₅ LE.e rfl LE.kOp h2 (by decide) (Calls.spliced_nil ?_)
  refine append_at gO₅ (fun h'' hs'' ho'' => ?_) (by rw [List.size_toArray]; omega)
  have H₆ := Hp.upd (F := ⟨h₀, env.locals, m, [], s₀⟩) (k1 := [(cN, oN), (cS, oS), (sd, od)]) (t := k3) H₅ hs'' ho''
  have e1 : vso.toArray.push v = (vso ++ [v]).toArray := by simp
  have e2 : ∀ x : Value, vsr.toArray.push x = (vsr ++ [x]).toArray := fun x => by simp
  refine k _ fz₂ _ _ (vso ++ [v]) _ f1 H₆ ⟨kO + 1, by rw [e1]⟩ ⟨kR + 1, by rw [e2]⟩ ((hrows.mono f1).snoc ⟨V, d, ps, t3, hV, hv.mono f1, hs, hps, rfl⟩)
end
end RegLaw

namespace RegLaw
open PySem PySem.Calls PySem.W PyProof.Rows

/- what a turn of the law's loop does -/
noncomputable def TurnOK (prog : Program) (w : World) (p : Program) (loose : List Str) (mean : ExcName → Option Value) (mg mb : Str → Option Value) (A : Around) (env : Env) (h₀ : Heap) (s₀ : Shared) (cS cN sd oa ra sl : Addr) (oS oL : Obj) (body : List Stmt) : Prop :=
  ∀ (it fz : List (Addr × Obj)) (oN od oO oR : Obj) (m : Str → Option Value) (at_ i : Nat) (vso vsr : List Value) (s : Shared) (Q : Flow → Shared → Prop), FOk (hd.heap_39 w.params) p loose mean mg mb ⟨h₀, env.locals, m, ld cN cS sd oa ra sl oN oS od oO oR oL it, s₀⟩ A 30 →
    Hp ⟨h₀, env.locals, m, ld cN cS sd oa ra sl oN oS od oO oR oL it, s₀⟩ fz s → (∃ ov, oN.data = .cell ov) → StObj prog w sl at_ od → at_ + 9 ≤ 1000 → SeqObj "list" vso oO → SeqObj "list" vsr oR → m "ops" = some (.ref oa) → m "rows" = some (.ref ra) → RowsOK fz i vso vsr → i < 90 →
    (∀ s' m' fz' oN' od' oO' oR' vso' vsr', Hp ⟨h₀, env.locals, m', ld cN cS sd oa ra sl oN' oS od' oO' oR' oL it, s₀⟩ fz' s' → (∃ ov, oN'.data = .cell ov) → StObj prog w sl (at_ + 9) od' → SeqObj "list" vso' oO' → SeqObj "list" vsr' oR' → m' "ops" = some (.ref oa) → m' "rows" = some (.ref ra) → RowsOK fz' (i + 1) vso' vsr' → Q .next s') →
    wpAny (model prog w) A (execs body env) Q No s

section
variable {prog : Program} {w : World} {A : Around} {p : Program} {loose : List Str} {mean : ExcName → Option Value} {mg mb : Str → Option Value} {env : Env} {h₀ : Heap} {s₀ : Shared} {cS cN sd oa ra sl : Addr} {oS oL : Obj} {vs : List Value} {ns : List Int}
theorem turn_ok {p1 p2 p3 p4 p5 p6 p7 p8 p9 : Pos} {r1 r2 r3 r4 r5 r6 r7 r8 r9 r10 r11 : Pos} {j1 j2 j3 j4 j5 j6 j7 j8 j9 j10 j11 : Pos} {n1 n2 n3 n4 n5 n6 : Pos} {q1 q2 q3 q4 : Pos} {a1 a2 a3 a4 a5 a6 a7 a8 a9 a10 a11 a12 a13 : Pos} {b1 b2 b3 b4 b5 : Pos}
    (LE : LawEnv env cS cN) (hoS : oS.data = .cell (some (.ref sd))) (hL : SeqObj "list" vs oL) (hI : IntsAre vs ns) (hlen : vs.length ≤ 1000)
    (hr1 : Nat.beq r10.line r8.line = true) (hj1 : Nat.beq j10.line j8.line = true) (hl1 : (a2.endLine == a12.line) = true) (hl2 : (b2.endLine == b4.line) = true) :
    TurnOK prog w p loose mean mg mb A env h₀ s₀ cS cN sd oa ra sl oS oL (
      .Assign [.Name "word" p1] (.Subscript (.Call (.Name "_law_words" p2) [] [] p3) (.Call (.Name "_law_pull" p4) [.Name "state" p5, .Constant (.int 31) 0 p6] [] p7) p8) p9 ::
      .Assign [.Name "r" r10] (.ListComp (.Call (.Name "_law_pull" r1) [.Name "state" r2, .Constant (.int 9) 0 r3] [] r4) [⟨.Name "_" r5, .Call (.Name "range" r6) [.Constant (.int 4) 0 r7] [] r9, [], 0⟩] pullsSc r8) r11 ::
      .Assign [.Name "j" j10] (.ListComp (.Call (.Name "_law_pull" j1) [.Name "state" j2, .Constant (.int 12) 0 j3] [] j4) [⟨.Name "_" j5, .Call (.Name "range" j6) [.Constant (.int 3) 0 j7] [] j9, [], 0⟩] pullsSc j8) j11 ::
      .Assign [.Name "n" n1] (.Call (.Name "_law_pull" n2) [.Name "state" n3, .Constant (.int 13) 0 n4] [] n5) n6 ::
      (spys [t_4, t_5, t_6] ++ (.Assign [.Name "mapping" q1] (.Call (.Name "dict" q2) [mapX.py] [] q3) q4 :: (spys [t_8] ++
      (.Expr (.Call (.Attribute (.Name "rows" a1) "append" a2) [.BinOp (.BinOp (.Call (.Name "str" a3) [.Call (.Name "len" a4) [.Name "ops" a5] [] a6] [] a7) .Add (.Constant (.str " ") 0 a8) a9) .Add (.Name "row" a10) a11] [] a12) a13 ::
      .Expr (.Call (.Attribute (.Name "ops" b1) "append" b2) [.Name "op" b3] [] b4) b5 :: []))))) := by
  intro it fz oN od oO oR m at_ i vso vsr s Q C H hoN hst hat hO hR hmO hmR hrows hi k
  obtain ⟨ov, hoN⟩ := hoN
  have CC : ∀ {m : Str → Option Value} {keep : List (Addr × Obj)}, FOk (hd.heap_39 w.params) p loose mean mg mb ⟨h₀, env.locals, m, keep, s₀⟩ A 30 := C.any rfl rfl
  refine draw_ok LE C H hoS hoN hst hat hL hI hlen hr1 hj1 fun s1 od1 oN1 wi t vw Dr Dj ur uj tn fz1 f1 ht hwi hvw H1 hst1 hDr hDj hur huj hoN1 => ?_
  have k1 : Kept m (setM (setM (setM m 16 vw) 18 (.ref Dr)) 29 (.ref Dj)) := ((Kept.set (by decide)).trans (Kept.set (by decide))).trans (Kept.set (by decide))
  refine mid_ok (t := t) (wi := wi) (tw := tn) (Dr := Dr) (Dj := Dj) LE CC H1 ht hwi ?_ ?_ setM_eq hDr hDj hur huj hoN1 fun s2 m2 fz2 oN2 v d ps tk f2 k2 H2 hoN2 a1' a2' a3' a4' a5' => ?_
  · rw [setM_ne (by decide) (by decide) (by decide), setM_ne (by decide) (by decide) (by decide), setM_eq, hvw]
  · rw [setM_ne (by decide) (by decide) (by decide), setM_eq]
  have k3 := k1.trans k2
  have hmO2 : m2 "ops" = some (.ref oa) := (kept_ops k3).trans hmO
  have hmR2 : m2 "rows" = some (.ref ra) := (kept_rows k3).trans hmR
  refine tail_ok LE CC H2 (Tn.ok ht) hO hR hmO2 hmR2 (hrows.mono (f1.trans f2)) hi a1' a2' a3' a4' a5' hl1 hl2 fun s3 fz3 oO3 oR3 vso3 vsr3 f3 H3 hO3 hR3 hrows3 => ?_
  exact wpAny_execs_nil (k s3 m2 fz3 oN2 od1 oO3 oR3 vso3 vsr3 H3 hoN2 hst1 hO3 hR3 hmO2 hmR2 hrows3)

theorem perm_end (fz l : List (Addr × Obj)) (x : Addr × Obj) : (fz ++ (l ++ [x])).Perm (x :: (fz ++ l)) := by
  rw [← List.append_assoc]
  exact List.perm_append_singleton x (fz ++ l)
theorem loop_rest {I : Addr} {nn : Nat} {body : List Stmt} {s : Shared} {Q : Flow → Shared → Prop} (hT : TurnOK prog w p loose mean mg mb A env h₀ s₀ cS cN sd oa ra sl oS oL body) (hs : ∃ h tk, s = { s₀ with heap := h, toks := tk })
    (C : ∀ m keep, FOk (hd.heap_39 w.params) p loose mean mg mb ⟨h₀, env.locals, m, keep, s₀⟩ A 30)
    (fin : ∀ s' m fz oN od oO oR vso vsr, Hp ⟨h₀, env.locals, m, ld cN cS sd oa ra sl oN oS od oO oR oL [], s₀⟩ fz s' → SeqObj "list" vso oO → SeqObj "list" vsr oR → m "ops" = some (.ref oa) → m "rows" = some (.ref ra) → RowsOK fz nn vso vsr → Q .next s') :
    ∀ (k i : Nat) (fz : List (Addr × Obj)) (oN od oO oR : Obj) (m : Str → Option Value) (vso vsr : List Value), i + k = nn → nn ≤ 20 → (I :: (fz ++ ld cN cS sd oa ra sl oN oS od oO oR oL []).map (·.1)).Nodup → (∃ ov, oN.data = .cell ov) → StObj prog w sl (9 * i) od → SeqObj "list" vso oO → SeqObj "list" vsr oR →
      m "ops" = some (.ref oa) → m "rows" = some (.ref ra) → RowsOK fz i vso vsr →
      RangeRest prog w A No h₀ env "turn" body Q s I 0 nn k i m (fz ++ ld cN cS sd oa ra sl oN oS od oO oR oL [])
  | 0, i, fz, oN, od, oO, oR, m, vso, vsr, hi, hn, nd, hoN, hst, hO, hR, hmO, hmR, hrows => by
    obtain ⟨h0, tk0, es⟩ := hs
    have e : i = nn := by omega
    subst e
    exact RangeRest.zero fun h tk F N => fin _ m fz oN od oO oR vso vsr ⟨F, N, (List.nodup_cons.mp nd).2, h, tk, by rw [es]⟩ hO hR hmO hmR hrows
  | k + 1, i, fz, oN, od, oO, oR, m, vso, vsr, hi, hn, nd, hoN, hst, hO, hR, hmO, hmR, hrows => by
    have hs' := hs
    obtain ⟨h0, tk0, es⟩ := hs'
    refine RangeRest.succ fun t h tk F N => ?_
    let it : Obj := itR (0 + ((i + 1 : Nat) : Int)) ((nn : Int) - ((i + 1 : Nat) : Int))
    have hperm : ∀ (fz : List (Addr × Obj)) (oN od oO oR : Obj), (fz ++ ld cN cS sd oa ra sl oN oS od oO oR oL [(I, it)]).Perm ((I, it) :: (fz ++ ld cN cS sd oa ra sl oN oS od oO oR oL [])) := fun fz oN od oO oR => perm_end fz (ld cN cS sd oa ra sl oN oS od oO oR oL []) (I, it)
    have H1 : Hp ⟨h₀, env.locals, fun y => if y = "turn" then some (.int (0 + (i : Int)) t) else m y, ld cN cS sd oa ra sl oN oS od oO oR oL [(I, it)], s₀⟩ fz { s with heap := h, toks := tk } :=
      ⟨F, fun q hq => N q ((hperm fz oN od oO oR).mem_iff.mp hq), ((hperm fz oN od oO oR).map _).nodup_iff.mpr nd, h, tk, by rw [es]⟩
    refine hT [(I, it)] fz oN od oO oR _ (9 * i) i vso vsr _ _ (C _ _) H1 hoN hst (by omega) hO hR ?_ ?_ hrows (by omega) ?_
    · show (if Str.ofString "ops" = Str.ofString "turn" then _ else m "ops") = _
      rw [if_neg (by decide)]; exact hmO
    · show (if Str.ofString "rows" = Str.ofString "turn" then _ else m "rows") = _
      rw [if_neg (by decide)]; exact hmR
    · intro s' m' fz' oN' od' oO' oR' vso' vsr' H2 hoN' hst' hO' hR' hmO' hmR' hrows'
      obtain ⟨h2, tk2, es2⟩ := H2.sh
      have nd2 : (I :: (fz' ++ ld cN cS sd oa ra sl oN' oS od' oO' oR' oL []).map (·.1)).Nodup := by
        have z := ((hperm fz' oN' od' oO' oR').map (fun q : Addr × Obj => q.1)).nodup_iff.mp H2.nd
        exact z
      have hst2 : StObj prog w sl (9 * (i + 1)) od' := by
        have e : 9 * (i + 1) = 9 * i + 9 := by omega
        rw [e]; exact hst'
      refine ⟨s'.heap, s'.toks, m', fz' ++ ld cN cS sd oa ra sl oN' oS od' oO' oR' oL [], by rw [es2, es], H2.fr, fun q hq => H2.nw q ((hperm fz' oN' od' oO' oR').mem_iff.mpr hq), fun q hq e => ?_, ?_⟩
      · have z := List.mem_map_of_mem (f := fun q : Addr × Obj => q.1) hq
        simp only [e] at z
        exact (List.nodup_cons.mp nd2).1 z
      · exact loop_rest hT hs C fin k (i + 1) fz' oN' od' oO' oR' m' vso' vsr' (by omega) hn nd2 hoN' hst2 hO' hR' hmO' hmR' hrows'
end
end RegLaw

namespace RegLaw
open PySem PySem.Calls PySem.W PyProof.Rows

section
variable {prog : Program} {w : World} {A : Around} {p : Program} {loose : List Str} {mean : ExcName → Option Value} {mg mb : Str → Option Value} {env : Env} {h₀ : Heap} {s₀ : Shared} {cS cN a : Addr} {oS oN : Obj} {vs : List Value} {ns : List Int}
theorem two_keep {L : Addr} {m : Str → Option Value} {s : Shared} {x y u v : Addr × Obj} (H : Hp ⟨h₀, L, m, [u, v], s₀⟩ [x, y] s) : Hp ⟨h₀, L, m, [u, v] ++ y :: [x], s₀⟩ [] s :=
  H.perm rfl rfl rfl rfl ((List.perm_append_comm (l₁ := [u, v]) (l₂ := [y, x])).trans (List.Perm.swap x y [u, v]))
theorem state_ok {m : Str → Option Value} {s : Shared} {Q : Value → Shared → Prop} {a1 a2 a3 a4 a5 a6 a7 a8 : Pos}
    (LE : LawEnv env cS cN) (kScript : env.kindOf "script" = some .local) (C : FOk (hd.heap_39 w.params) p loose mean mg mb ⟨h₀, env.locals, m, [(cN, oN), (cS, oS)], s₀⟩ A 30) (H : Hp ⟨h₀, env.locals, m, [(cN, oN), (cS, oS)], s₀⟩ [] s)
    (hm : m "script" = some (.ref a)) (hl : h₀.IsList a vs.toArray) (hI : IntsAre vs ns) (hlen : vs.length ≤ 1000)
    (k : ∀ s' sd od sl oL vs' ns', Hp ⟨h₀, env.locals, m, [(cN, oN), (cS, oS)] ++ [(sd, od), (sl, oL)], s₀⟩ [] s' → StObj prog w sl 0 od → SeqObj "list" vs' oL → IntsAre vs' ns' → vs'.length ≤ 1000 → Q (.ref sd) s') :
    wpAny (model prog w) A (eval (.Dict [some (.Constant (.str "script") 0 a1), some (.Constant (.str "at") 0 a2)] [.Subscript (.Name "script" a3) (.Slice none (some (.Constant (.int 130) 0 a4)) none a5) a6, .Constant (.int 0) 0 a7] a8) env) Q No s := by
  refine kdn_str rfl H.fr H.nw C.top.nolimit rfl rfl (List.cons_ne_nil _ _) (by simp) fun d h' o F' N' lt lo hd => ?_
  have H1 := H.add' F' N' lt
  refine pairTrees_cons_walk (Calls.Constant_str ?_)
  have H2 := H1.tok (s.toks + 1)
  refine Subscript_ (nm_l H2 LE.e rfl kScript hm (by decide) (wpAny_Slice ?_))
  refine wpAny_pure ?_
  show wpAny _ _ (eval (.Constant (.int 130) 0 a4) env) _ _ _
  refine wpAny_Constant_int ?_
  refine wpAny_pure ?_
  have H3 := H2.tok (s.toks + 1 + 1)
  refine slice_list H3.fr H3.nw (hl.at fun o e => H3.fr.keep a o e) .none (.int _ _) (fun h2 F2 N2 => ?_) (by rfl) (by intro _; rfl) (by rw [List.size_toArray]; have := sizeLine_ge; omega)
  have H4 := H3.new (k := 1) F2 N2
  refine pairTrees_cons_walk (Calls.Constant_str (wpAny_Constant_int (pairTrees_nil_walk ?_)))
  have H5 := H4.tok (s.toks + 1 + 1 + 1 + 1)
  have hIs := kmk_upto (y := 130) hI (by decide)
  have H6 := two_keep H5
  refine display_done_str (by rfl) (show ([Str.ofString "script", Str.ofString "at"] : List Str).Nodup by decide) (Heap.dictOf_iff.mpr ⟨o, H6.nw.get (.tail _ (.tail _ (.head _))), hd⟩) fun h3 hmm hs => ?_
  obtain ⟨o', ho', hd'⟩ := Heap.dictOf_iff.mp hmm
  have H7 := Hp.upd (F := ⟨h₀, env.locals, m, [], s₀⟩) (k1 := [(cN, oN), (cS, oS)]) (t := s.toks + 1 + 1 + 1 + 1 + 2) H6 hs ho'
  refine k _ d o' _ _ _ _ H7 ⟨_, hd'⟩ ⟨0, by simp⟩ hIs ?_
  have := hIs.length
  rw [this, List.length_take]
  omega
end
end RegLaw

namespace RegLaw
open PySem PySem.Calls PySem.W PyProof.Rows

theorem perm6 {α : Type} (a b c d e f : α) : [c, d, e, b, a, f].Perm [a, b, c, d, e, f] := by
  classical
  rw [List.perm_iff_count]
  intro x
  simp only [List.count_cons, List.count_nil]
  ac_rfl
section
variable {prog : Program} {w : World} {A : Around} {p : Program} {loose : List Str} {mean : ExcName → Option Value} {mg mb : Str → Option Value} {env : Env} {h₀ : Heap} {s₀ : Shared} {cS cN a : Addr} {vs : List Value} {ns : List Int}
theorem empty_ok {x : Str} {F : Fx} {fz : List (Addr × Obj)} {s : Shared} {Q : Flow → Shared → Prop} {a1 a2 a3 : Pos} (O : EOk env) (hL : env.locals = F.L) (hx : env.kindOf x = some .local) (H : Hp F fz s)
    (k : ∀ s' a o, SeqObj "list" [] o → Hp { F with m := fun y => if y = x then some (.ref a) else F.m y } ((a, o) :: fz) s' → Q .next s') : wpAny (model prog w) A (exec (.Assign [.Name x a1] (.List [] a2) a3) env) Q No s := by
  refine wpAny_Assign_Name (hs := rfl) (List_ (spliced_none ?_))
  refine newList_N H.fr H.nw (fun h' F' N' => ?_) (by decide)
  have H1 := H.new (k := 0) F' N'
  refine st_l H1 O hL hx fun s' H2 => ?_
  exact k s' _ _ ⟨0, rfl⟩ H2
theorem start_ok {m : Str → Option Value} {s : Shared} {Q : Flow → Shared → Prop} {rest body : List Stmt} {oN oS : Obj} {ov1 ov2 : Option Value} {a0 a00 a1 a2 a3 a4 a5 a6 a7 a8 b1 b2 b3 c1 c2 c3 f1 f2 f3 f4 f5 f6 f7 f8 f9 f10 f11 : Pos}
    (LE : LawEnv env cS cN) (kScript : env.kindOf "script" = some .local) (kTurn : env.kindOf "turn" = some .local) (C : ∀ m keep, FOk (hd.heap_39 w.params) p loose mean mg mb ⟨h₀, env.locals, m, keep, s₀⟩ A 30) (H : Hp ⟨h₀, env.locals, m, [(cN, oN), (cS, oS)], s₀⟩ [] s)
    (hm : m "script" = some (.ref a)) (hl : h₀.IsList a vs.toArray) (hI : IntsAre vs ns) (hlen : vs.length ≤ 1000) (hoS : oS.data = .cell ov1) (hoN : oN.data = .cell ov2)
    (hT : ∀ sd oa ra sl oS oL vs' ns', oS.data = .cell (some (.ref sd)) → SeqObj "list" vs' oL → IntsAre vs' ns' → vs'.length ≤ 1000 → TurnOK prog w p loose mean mg mb A env h₀ s₀ cS cN sd oa ra sl oS oL body)
    (k : ∀ s' m' sd oa ra sl oS oL fz oN od oO oR vso vsr nn, Hp ⟨h₀, env.locals, m', ld cN cS sd oa ra sl oN oS od oO oR oL [], s₀⟩ fz s' → SeqObj "list" vso oO → SeqObj "list" vsr oR → m' "ops" = some (.ref oa) → m' "rows" = some (.ref ra) → nn ≤ 20 → RowsOK fz nn vso vsr → wpAny (model prog w) A (execs rest env) Q No s') :
    wpAny (model prog w) A (execs (
      .Assign [.Name "state" a0] (.Dict [some (.Constant (.str "script") 0 a1), some (.Constant (.str "at") 0 a2)] [.Subscript (.Name "script" a3) (.Slice none (some (.Constant (.int 130) 0 a4)) none a5) a6, .Constant (.int 0) 0 a7] a8) a00 ::
      .Assign [.Name "ops" b1] (.List [] b2) b3 :: .Assign [.Name "rows" c1] (.List [] c2) c3 ::
      .For (.Name "turn" f1) (.Call (.Name "range" f2) [.BinOp (.Constant (.int 3) 0 f3) .Add (.BinOp (.Call (.Name "len" f4) [.Name "script" f5] [] f6) .Mod (.Constant (.int 10) 0 f7) f8) f9] [] f10) body [] f11 :: rest) env) Q No s := by
  refine wpAny_execs_cons (wpAny_Assign_Name (hs := rfl) (state_ok LE kScript (C _ _) H hm hl hI hlen fun s1 sd od sl oL vs' ns' H1 hst hL hI' hlen' => ?_))
  refine wpAny_storeName_cell LE.e.k LE.kS LE.cS ⟨oS, H1.nw.get (.tail _ (.head _)), hoS⟩ fun h' hc hs => ?_
  obtain ⟨oS', hoS', hdS'⟩ := hc
  have H2 := Hp.upd (F := ⟨h₀, env.locals, m, [], s₀⟩) (k1 := [(cN, oN)]) (t := s1.toks) H1 hs hoS'
  refine wpAny_execs_cons (empty_ok LE.e rfl LE.kOps H2 fun s2 oa oO hO H3 => ?_)
  refine wpAny_execs_cons (empty_ok LE.e rfl LE.kRows H3 fun s3 ra oR hR H4 => ?_)
  refine wpAny_execs_cons ?_
  let m4 : Str → Option Value := fun y => if y = "rows" then some (.ref ra) else if y = "ops" then some (.ref oa) else m y
  have H5 : Hp ⟨h₀, env.locals, m4, ld cN cS sd oa ra sl oN oS' od oO oR oL [], s₀⟩ [] s3 := H4.perm rfl rfl rfl rfl (perm6 (ra, oR) (oa, oO) (cN, oN) (cS, oS') (sd, od) (sl, oL))
  have hm4 : m4 "script" = some (.ref a) := hm
  refine For_invVF H5.fr kTurn (by rw [LE.e.k]; rfl) ?_ (folded_range env) PassesOwn.never
  refine Call_ (name_Bi (C _ _) LE.e H5 LE.gRange (k_ok w).range boot_range (by decide) (by decide) ?_)
  refine callWith_type1 ?_ (by rfl) rfl
  refine spliced_more ?_ (by rfl)
  refine wpAny_BinOp (wpAny_Constant_int (wpAny_BinOp ?_))
  have H6 := H5.tok (s3.toks + 1)
  refine Call_ (name_Bi (C _ _) LE.e H6 LE.gLen (k_ok w).len boot_len (by decide) (by decide) ?_)
  refine callWith_method1 (first := []) ?_ (by rfl) rfl
  refine spliced_more ?_ (by rfl)
  refine nm_l H6 LE.e rfl kScript hm4 (by decide) (spliced_none ?_)
  refine call_len_list (hl.at fun o e => H6.fr.keep a o e) (by rw [List.size_toArray]; omega) ?_
  refine wpAny_Constant_int (mod_int' (by decide) (PySem.P.add_int (spliced_none ?_)))
  have H7 := H6.tok (s3.toks + 1 + 1 + 1 + 1 + 1 + 1)
  have hnn : (3 : Int) + ((vs.toArray.size : Nat) : Int).fmod 10 = ((3 + vs.length % 10 : Nat) : Int) := by
    rw [List.size_toArray, Int.fmod_eq_emod_of_nonneg _ (by decide)]
    omega
  rw [hnn]
  refine range1_rows H7.fr H7.nw fun h7 tk t₁ u₁ v₁ hr F' N' _ => ?_
  have H8 := H7.at (t := tk) F' N'
  refine iter_rangeUnr (n := 3 + vs.length % 10) (news := [] ++ ld cN cS sd oa ra sl oN oS' od oO oR oL []) (C m4 []).handled hr (small_one (by decide) (by decide) (by omega) (by omega)) (by rw [rangeSize_nat]; omega) H8.fr H8.nw fun I hI => ?_
  refine loop_rest (nn := 3 + vs.length % 10) (hT sd oa ra sl oS' oL vs' ns' hdS' hL hI' hlen') H8.sh (fun m keep => C m keep) (fun s' m' fz oN od oO oR vso vsr q1 q2 q3 q4 q5 q6 => ?_) (3 + vs.length % 10) 0 [] oN od oO oR m4 [] [] (by omega) (by omega) ?_ ⟨_, hoN⟩ hst hO hR rfl rfl ⟨rfl, rfl, fun k v u h => by simp at h⟩
  · exact k s' m' sd oa ra sl oS' oL fz oN od oO oR vso vsr _ q1 q2 q3 q4 q5 (by omega) q6
  · refine List.nodup_cons.mpr ⟨fun hm => ?_, H8.nd⟩
    obtain ⟨q', hq', e⟩ := List.mem_map.mp hm
    have z := hI q' hq'
    rw [e] at z
    exact Nat.lt_irrefl _ z
end
end RegLaw

namespace RegLaw
open PySem PySem.Calls PySem.W PyProof.Rows

section
variable {prog : Program} {w : World} {A : Around} {F : Fx} {fz : List (Addr × Obj)} {p : Program} {loose : List Str} {mean : ExcName → Option Value} {mg mb : Str → Option Value}
theorem call_envs (args : Args) : Code.envs (.builtin "type.__call__" args) = [] := by with_unfolding_all rfl
theorem call_weight (c : Addr) (r : List Value) (k : List (Str × Value)) : Code.weight (.builtin "type.__call__" ⟨.ref c :: r, k⟩) = 1 := by with_unfolding_all rfl
theorem make_code {s : Shared} {Q : Value → Shared → Prop} {v1 v2 v3 v4 : Value} (C : FOk (hd.heap_39 w.params) p loose mean mg mb F A 5) (H : Hp F fz s)
    (k : ∀ s' x dx es n, getL "ops" es = some (some v1) → getL "entries" es = some (some v3) → Hp F ((x, instObj 34 dx) :: (dx, dictOf es n) :: fz) s' → Q (.ref x) s') :
    wpAny (model prog w) A (call (.ref 34) [v1, v2, v3, v4]) Q No s := by
  obtain ⟨A₀, base, outer, env, B, hA, hf, hke⟩ := C.below
  refine call_cls (fI := 31) H.fr C.kin H.nw (by kernel_rfl) (by kernel_rfl) (by kernel_rfl) fun x dx h' F' N' lt hlt => ?_
  refine code_def (binds := [("self", .ref x), ("ops", v1), ("registers", v2), ("entries", v3), ("formats", v4)]) B F' C.kin N' C.top (by simp only [Around.under, call_envs, pushEnvs, hA]) hf hke (by rfl) (by kernel_rfl) ?_ (.of_eq (by rfl)) ?_ ?_ (by rfl) (by rfl) (by rfl) (by decide)
  · show A.depth + Code.weight _ < _
    rw [call_weight]
    have := C.depth
    omega
  · intro y hy
    repeat (rcases List.mem_cons.mp hy with rfl | hy; rfl)
    cases hy
  intro g L' h₁ FG F1 N1 B' X' T'
  refine wpAny_mono ?_ (fun _ _ x => x) (fun _ _ x => False.elim x)
  have xdx : x ≠ dx := Nat.ne_of_gt hlt
  have off : ∀ q ∈ fz ++ F.keep, q.1 ≠ dx := fun q hq => Nat.ne_of_lt (lt q hq)
  -- the four attributes
  refine wpAny_execs_cons (plainObj_wpAny_Assign_Attribute (nameX_L F1 (v := v1) (by rfl) (nameX_L F1 (v := .ref x) (by rfl) ?_)))
  refine set_dict (C := 34) (x := x) (dx := dx) F1 X' N1 (InstAt.of_news N1 (.head _) (.tail _ (.head _))) rfl (by kernel_rfl) (by kernel_rfl) (by kernel_rfl) (by kernel_rfl) (by rfl) rfl (.tail xdx (.head off)) (Nat.le_of_ble_eq_true rfl) fun h2 F2 N2 => ?_
  refine wpAny_execs_cons (plainObj_wpAny_Assign_Attribute (nameX_L F2 (v := v2) (by rfl) (nameX_L F2 (v := .ref x) (by rfl) ?_)))
  refine set_dict (C := 34) (x := x) (dx := dx) F2 X' N2 (InstAt.of_news N2 (.head _) (.tail _ (.head _))) rfl (by kernel_rfl) (by kernel_rfl) (by kernel_rfl) (by kernel_rfl) (by rfl) rfl (.tail xdx (.head off)) (Nat.le_of_ble_eq_true rfl) fun h3 F3 N3 => ?_
  refine wpAny_execs_cons (plainObj_wpAny_Assign_Attribute (nameX_L F3 (v := v3) (by rfl) (nameX_L F3 (v := .ref x) (by rfl) ?_)))
  refine set_dict (C := 34) (x := x) (dx := dx) F3 X' N3 (InstAt.of_news N3 (.head _) (.tail _ (.head _))) rfl (by kernel_rfl) (by kernel_rfl) (by kernel_rfl) (by kernel_rfl) (by rfl) rfl (.tail xdx (.head off)) (Nat.le_of_ble_eq_true rfl) fun h4 F4 N4 => ?_
  refine wpAny_execs_cons (plainObj_wpAny_Assign_Attribute (nameX_L F4 (v := v4) (by rfl) (nameX_L F4 (v := .ref x) (by rfl) ?_)))
  refine set_dict (C := 34) (x := x) (dx := dx) F4 X' N4 (InstAt.of_news N4 (.head _) (.tail _ (.head _))) rfl (by kernel_rfl) (by kernel_rfl) (by kernel_rfl) (by kernel_rfl) (by rfl) rfl (.tail xdx (.head off)) (Nat.le_of_ble_eq_true rfl) fun h5 F5 N5 => ?_
  refine wpAny_execs_nil (leaveK_ F5 N5 fun F6 N6 => ⟨rfl, ?_⟩)
  obtain ⟨hh, tk, es⟩ := H.sh
  refine k _ x dx _ _ (by rfl) (by rfl) ⟨F6, N6, ?_, h5, _, by rw [es]⟩
  show (x :: dx :: (fz ++ F.keep).map (·.1)).Nodup
  refine List.nodup_cons.mpr ⟨fun hm => ?_, List.nodup_cons.mpr ⟨fun hm => ?_, H.nd⟩⟩
  · rcases List.mem_cons.mp hm with e | hm
    · exact xdx e
    · obtain ⟨q, hq, e⟩ := List.mem_map.mp hm
      have := lt q hq
      rw [e] at this
      exact Nat.lt_irrefl _ (Nat.lt_trans hlt this)
  · obtain ⟨q, hq, e⟩ := List.mem_map.mp hm
    exact off q hq e
end
end RegLaw

namespace RegLaw
open PySem PySem.Calls PySem.W PyProof.Rows

section
variable {prog : Program} {w : World} {A : Around} {F : Fx} {fz : List (Addr × Obj)} {p : Program} {loose : List Str} {mean : ExcName → Option Value} {mg mb : Str → Option Value} {K : Frag} {n : Nat}
theorem Hp.ext {D : Addr} {o o' : Obj} {s : Shared} {h' : Heap} {t : Nat} (H : Hp F ((D, o) :: fz) s) (hk : ∀ b x, b ≠ D → s.heap.get? b = some x → h'.get? b = some x) (ho : h'.get? D = some o') : Hp F ((D, o') :: fz) { s with heap := h', toks := t } := by
  have hD := H.nw (D, o) (.head _)
  have nd := H.nd
  rw [List.cons_append, List.map_cons, List.nodup_cons] at nd
  obtain ⟨hh, tk, es⟩ := H.sh
  refine ⟨⟨H.fr.ns.at' fun x e => hk _ _ (Ne.symm hD.2.1) e, fun b x e => hk b x (fun q => ?_) (H.fr.keep b x e), H.fr.above⟩, fun q hq => ?_, H.nd, h', t, by rw [es]⟩
  · subst q
    have := hD.2.2
    simp only at this
    rw [this] at e; cases e
  · rcases List.mem_cons.mp hq with rfl | hq
    · exact ⟨ho, hD.2⟩
    · have hq' := H.nw q (.tail _ hq)
      refine ⟨hk _ _ (fun e => nd.1 ?_) hq'.1, hq'.2⟩
      have z := List.mem_map_of_mem (f := fun q : Addr × Obj => q.1) hq
      simp only [e] at z
      exact z
theorem lsort_str {D : Addr} {vs : List Value} {ss : List Str} {c : Nat} {s : Shared} {E : Value → Shared → Prop} {Q : Value → Shared → Prop} (ho : s.heap.get? D = some (seqObj "list" vs.toArray c)) (hS : StrsAre vs ss) (h64 : vs.length < 64)
    (h : ∀ h' vs' ss' c', (∀ b x, b ≠ D → s.heap.get? b = some x → h'.get? b = some x) → h'.get? D = some (seqObj "list" vs'.toArray c') → StrsAre vs' ss' → ss'.Perm ss → sortedS ss' = true → Q .none { s with heap := h' }) :
    wpAny (model prog w) A (call (.builtin "list.sort") [.ref D]) Q E s := by
  refine wpAny_call_entry PyProof.Rows.slot_list_sort ⟨_, ho, rfl⟩ PyProof.Rows.entry_list_sort (list_sort_treeK strKind_oneLt ho hS.keysOf (fun v₁ v₂ rest e => keyKind_strs (by rw [← e]; exact hS)) h64 fun st' hp hs => ⟨.none, rfl, ?_⟩) (PyProof.Rows.args_list_sort _)
  obtain ⟨ss', h1, h2, h3⟩ := sorted_out_str hS hp hs
  obtain ⟨c', hc⟩ := sortedHeap_at (vs := vs) (out := (arrOf st').map (·.2)) ho
  exact h _ ((arrOf st').map (·.2)).toList ss' c' (fun b x hb e => (sortedHeap_old hb (Heap.lt_size e)).trans e) (by rw [Array.toArray_toList]; exact hc) h1 h2 h3
theorem two_sorted {ss : List Str} (hp : ss.Perm [Str.ofString "S", Str.ofString "E"]) (hs : sortedS ss = true) : ss = [Str.ofString "E", Str.ofString "S"] := by
  have hl := hp.length_eq
  match ss, hl with
  | [a, b], _ =>
    have ha : a ∈ [Str.ofString "S", Str.ofString "E"] := hp.mem_iff.mp (.head _)
    rcases List.mem_cons.mp ha with e | ha
    · subst e
      have hb := (List.perm_cons _).mp hp
      have hb' : b ∈ [Str.ofString "E"] := hb.mem_iff.mp (.head _)
      have e := List.mem_singleton.mp hb'
      subst e
      exact absurd hs (by decide +kernel)
    · have e := List.mem_singleton.mp ha
      subst e
      have hp2 : [Str.ofString "E", b].Perm [Str.ofString "E", Str.ofString "S"] := hp.trans (List.Perm.swap _ _ _)
      have hb := (List.perm_cons _).mp hp2
      have hb' : b ∈ [Str.ofString "S"] := hb.mem_iff.mp (.head _)
      rw [List.mem_singleton.mp hb']
theorem two_of {vs : List Value} {x y : Str} (hlen : vs.length = 2) (h0 : ∀ a, vs[0]? = some a → ∃ t, a = .str x t) (h1 : ∀ b, vs[1]? = some b → ∃ t, b = .str y t) : ∃ t1 t2, vs = [.str x t1, .str y t2] := by
  cases vs with
  | nil => cases hlen
  | cons a vs => cases vs with
    | nil => cases hlen
    | cons b vs =>
      obtain ⟨t1, e1⟩ := h0 a rfl
      obtain ⟨t2, e2⟩ := h1 b rfl
      refine ⟨t1, t2, ?_⟩
      rw [e1, e2, List.length_eq_zero_iff.mp (Nat.succ.inj (Nat.succ.inj hlen))]
theorem sorted_ok {s : Shared} {Q : Value → Shared → Prop} {de : Addr} {oE : Obj} {u1 u2 : Value} (hh : A.handled = none) (H : Hp F fz s) (hde : (de, oE) ∈ fz ++ F.keep) (hd : oE.IsDictOf (PySem.strKind prog w) [("S", u1), ("E", u2)]) (lo : (de == sysModules) = false)
    (k : ∀ s' D t1 t2 c, Hp F ((D, listOf [.str "E" t1, .str "S" t2].toArray c) :: fz) s' → Q (.ref D) s') : wpAny (model prog w) A (call (.builtin "sorted") [.ref de]) Q No s := by
  obtain ⟨ep, hat⟩ := (kda_dict H.nw hde hd).dictAt
  refine kdu_sorted (kdl_dict (knd := PySem.strKind prog w) (kvs := [("S", u1), ("E", u2)]) (ep := ep) lo) hh H.fr H.nw hat (by have := sizeLine_ge; simp; omega) fun D h' tk vs F' N' lt hlen hv => ?_
  have H1 := H.add (t := tk) F' N' lt
  have hS : ∃ t1 t2, vs = [.str "S" t1, .str "E" t2] := by
    refine two_of hlen (fun a h => ?_) (fun b h => ?_)
    · obtain ⟨k1, x1, e1, q1⟩ := hv 0 a h
      cases e1
      exact Value.isStrOf_shape q1
    · obtain ⟨k2, x2, e2, q2⟩ := hv 1 b h
      cases e2
      exact Value.isStrOf_shape q2
  obtain ⟨t1, t2, rfl⟩ := hS
  refine lsort_str (H1.nw.get (.head _)) (.cons _ _ (.cons _ _ .nil)) (by simp) fun h'' vs' ss' c' hk ho' hS' hp hs => ?_
  have e := two_sorted hp hs
  subst e
  cases hS' with
  | cons _ t3 r1 =>
    cases r1 with
    | cons _ t4 r2 =>
      cases r2
      exact k _ D t3 t4 c' (H1.ext (t := tk) hk ho')
end
end RegLaw

namespace RegLaw
open PySem PySem.Calls PySem.W PyProof.Rows

theorem boot_sorted : bootBuiltins "sorted" = some (.builtin "sorted") := by boot_by_name
section
variable {prog : Program} {w : World} {A : Around} {F : Fx} {fz : List (Addr × Obj)} {p : Program} {loose : List Str} {mean : ExcName → Option Value} {mg mb : Str → Option Value} {n : Nat} {env : Env} {h₀ : Heap} {s₀ : Shared} {m : Str → Option Value} {L : Addr}
theorem attr_ok {attr : Str} {x dx y : Addr} {es : List DictEntry} {c : Nat} {s : Shared} {q r : Pos} {Q : Value → Shared → Prop} (C : FOk (hd.heap_39 w.params) p loose mean mg mb F A n) (H : Hp F fz s) (O : EOk env) (hL : env.locals = F.L) (hx : env.kindOf "code" = some .local) (hm : F.m "code" = some (.ref x))
    (hxo : (x, instObj 34 dx) ∈ fz ++ F.keep) (hdx : (dx, dictOf es c) ∈ fz ++ F.keep) (ha : findIn (hd.heap_39 w.params) (.ref 34) attr = some none) (hl : getL attr es = some (some (.ref y))) (k : ∀ s', Hp F fz s' → Q (.ref y) s') :
    wpAny (model prog w) A (eval (.Attribute (.Name "code" q) attr r) env) Q No s := by
  refine Attribute_any_ (nm_l H O hL hx hm (by decide) ?_)
  exact get_own (C := 34) (x := x) H.fr C.kin (InstAt.of_news H.nw hxo hdx) (by kernel_rfl) (by kernel_rfl) ha (by rfl) hl (by rfl) (k _ (H.tok _))
theorem push_ok {e : Expr} {rb : Addr} {oB : Obj} {us : List Value} {kp : List (Addr × Obj)} {y : Str} {s : Shared} {a1 a2 a3 a4 : Pos} {Q : Flow → Shared → Prop} (H : Hp ⟨h₀, L, m, (rb, oB) :: kp, s₀⟩ fz s) (O : EOk env) (hL : env.locals = L) (hx : env.kindOf "rows" = some .local) (hm : m "rows" = some (.ref rb))
    (hB : SeqObj "list" us oB) (hlen : us.length ≤ 1000) (hstar : starEach [e] env = [(false, eval e env)]) (hline : (a2.endLine == a3.line) = true)
    (he : ∀ (Q' : Value → Shared → Prop), (∀ s' fz' t, Sub fz fz' → Hp ⟨h₀, L, m, (rb, oB) :: kp, s₀⟩ fz' s' → Q' (.str y t) s') → wpAny (model prog w) A (eval e env) Q' No s)
    (k : ∀ s' fz' oB' t, Sub fz fz' → Hp ⟨h₀, L, m, (rb, oB') :: kp, s₀⟩ fz' s' → SeqObj "list" (us ++ [.str y t]) oB' → Q .next s') :
    wpAny (model prog w) A (exec (.Expr (.Call (.Attribute (.Name "rows" a1) "append" a2) [e] [] a3) a4) env) Q No s := by
  have hint : interactive env = false := by unfold interactive; rw [O.k]; rfl
  obtain ⟨c, rfl⟩ := hB
  refine wpAny_Expr ?_ hint rfl
  refine Call_method1 (isNm_base (e := .loc 40 a1) rfl _ _) hstar hline ?_
  refine nm_l H O hL hx hm (by decide) ?_
  have g := H.nw.get (List.mem_append_right fz (.head _))
  refine ⟨"list", "list.append", PySem.F.plainAttrs_list, PySem.F.slot_list_append, PySem.F.type_list_append, ⟨_, g, rfl⟩, (fun a ea => by cases ea; exact ⟨_, g, rfl⟩), ?_⟩
  refine Calls.callWith_builtin rfl (Calls.evalArgs_plain (Calls.spliced_cons (he _ fun s1 fz1 t f1 H1 => Calls.spliced_nil ?_)))
  refine append_at (H1.nw.get (List.mem_append_right fz1 (.head _))) (fun h' hs ho => ?_) (by rw [List.size_toArray]; have := sizeLine_ge; omega)
  have e2 : us.toArray.push (Value.str y t) = (us ++ [Value.str y t]).toArray := by simp
  exact k _ fz1 _ t f1 (Hp.upd (F := ⟨h₀, L, m, [], s₀⟩) (k1 := []) (t := s1.toks) H1 hs ho) ⟨c + 1, by rw [e2]⟩
theorem entry_ok {x dx de : Addr} {es : List DictEntry} {c q : Nat} {oE : Obj} {kvs : List (Str × Value)} {u : Value} {d : SD} {nmv : Str} {tn : Tok} {s : Shared} {Q : Value → Shared → Prop} {a1 a2 a3 a4 a5 a6 a7 a8 a9 a10 a11 a12 a13 a14 : Pos}
    (C : FOk (hd.heap_39 w.params) p loose mean mg mb F A n) (H : Hp F fz s) (O : EOk env) (hL : env.locals = F.L) (kCode : env.kindOf "code" = some .local) (kName : env.kindOf "name" = some .local) (gStr : env.kindOf "str" = some .globalImplicit)
    (hm : F.m "code" = some (.ref x)) (hmn : F.m "name" = some (.str nmv tn)) (hxo : (x, instObj 34 dx) ∈ fz ++ F.keep) (hdx : (dx, dictOf es c) ∈ fz ++ F.keep) (hl : getL "entries" es = some (some (.ref de))) (hde : (de, oE) ∈ fz ++ F.keep) (hd : oE.IsDictOf (PySem.strKind prog w) kvs)
    (hv : valueAt kvs nmv = some u) (hu : VIn V0 fz u (.tup [.int ⟨0, .ofNat q⟩, d])) (hq : q < 10) (hn : nmv.length ≤ 10)
    (k : ∀ s' fz' t, Sub fz fz' → Hp F fz' s' → Q (.str (((Str.ofString "entry " ++ nmv) ++ Str.ofString " @") ++ txt V0 [.lit (dg q)]) t) s') :
    wpAny (model prog w) A (eval (.BinOp (.BinOp (.BinOp (.Constant (.str "entry ") 0 a1) .Add (.Name "name" a2) a3) .Add (.Constant (.str " @") 0 a4) a5) .Add (.Call (.Name "str" a6) [.Subscript (.Subscript (.Attribute (.Name "code" a7) "entries" a8) (.Name "name" a9) a10) (.Constant (.int 0) 0 a11) a12] [] a13) a14) env) Q No s := by
  have slg := sizeLine_ge
  have l1 : (Str.ofString "entry ").length = 6 := by decide
  have l2 : (Str.ofString " @").length = 2 := by decide
  refine wpAny_BinOp (wpAny_BinOp (wpAny_BinOp (Calls.Constant_str ?_)))
  have H1 := H.tok (s.toks + 1)
  refine nm_l H1 O hL kName hmn (by decide) (SBL.add (fun t1 k1 _ => Calls.Constant_str (SBL.add (fun t2 k2 _ => ?_) ?_)) ?_)
  rotate_left
  · rw [Str.length_append, l1, l2]; omega
  · rw [l1]; omega
  have H2 := H1.tok k2
  refine Call_ (name_Bi C O H2 gStr (k_ok w).str boot_str (by decide) (by decide) ?_)
  refine callWith_type1 ?_ (by rfl) rfl
  refine spliced_more ?_ (by rfl)
  refine Subscript_ (Subscript_ (attr_ok C H2 O hL kCode hm hxo hdx (by kernel_rfl) hl fun s3 H3 => nm_l H3 O hL kName hmn (by decide) ?_))
  refine tail_any (kda_dict H3.nw hde hd).typeIs slot_dict_getitem.lookup (wpAny_getItem_of (strKind_is _ _ _ _) (kda_dict H3.nw hde hd).mapOf hv ?_) (by rfl)
  have H4 := H3.tok (s3.toks + 1)
  refine wpAny_Constant_int ?_
  have H5 := H4.tok (s3.toks + 1 + 1)
  have hiv : VIn V0 fz (.int 0 (s3.toks + 1)) (.int ⟨0, .ofNat 0⟩) := by
    have e : (0 : Int) = (IE.mk 0 (Int.ofNat 0)).ev V0 := by rw [ev_const V0_ok]; rfl
    rw [e]; exact .int _ _
  refine item_sound V0_ok (k := 0) (j := .int ⟨0, .ofNat 0⟩) rfl (a := .int ⟨0, .ofNat q⟩) rfl (by intro l u st q e; cases e) hu hiv fz _ _ (Sub.refl _) H5 fun v6 s6 fz6 f6 H6 hv6 => spliced_none ?_
  have hstr : strOfD (.int ⟨0, .ofNat q⟩) = some (.str [.lit (dg q)]) := by
    have e : Nat.blt q 100 = true := by rw [Nat.blt_eq]; omega
    simp only [strOfD, numText, e]
  refine op_str hstr V0_ok C hv6 fz6 _ _ (Sub.refl _) H6 fun v7 s7 fz7 f7 H7 hv7 => ?_
  cases hv7 with
  | str _ t7 =>
  refine SBL.add (fun t8 k8 _ => k _ fz7 t8 (f6.trans f7) (H7.tok k8)) ?_
  have hdg : (dg q).length ≤ 2 := by unfold dg; split <;> simp
  rw [txt_len, Str.length_append, Str.length_append, l1, l2]
  simp [csOf, Pc.cs]
  omega
end
end RegLaw

namespace RegLaw
open PySem PySem.Calls PySem.W PyProof.Rows

section
variable {prog : Program} {w : World} {A : Around} {F : Fx} {fz : List (Addr × Obj)} {p : Program} {loose : List Str} {mean : ExcName → Option Value} {mg mb : Str → Option Value} {env : Env}
theorem oprow_ok {x dx oa : Addr} {es : List DictEntry} {c i : Nat} {oO : Obj} {vso : List Value} {V : Vl} {v : Value} {d : SD} {ps : List Pc} {ti : Tok} {s : Shared} {Q : Value → Shared → Prop} {a1 a2 a3 a4 a5 a6 a7 a8 a9 a10 a11 a12 : Pos}
    (C : FOk (hd.heap_39 w.params) p loose mean mg mb F A 28) (H : Hp F fz s) (O : EOk env) (hL : env.locals = F.L) (kCode : env.kindOf "code" = some .local) (kAt : env.kindOf "at" = some .local) (gStr : env.kindOf "str" = some .globalImplicit) (gShow : env.kindOf "show_op" = some .globalImplicit)
    (hm : F.m "code" = some (.ref x)) (hma : F.m "at" = some (.int (i : Int) ti)) (hxo : (x, instObj 34 dx) ∈ fz ++ F.keep) (hdx : (dx, dictOf es c) ∈ fz ++ F.keep) (hl : getL "ops" es = some (some (.ref oa))) (hoa : (oa, oO) ∈ fz ++ F.keep) (hO : SeqObj "list" vso oO)
    (hv : vso[i]? = some v) (hV : V.Ok) (hvd : VIn V fz v d) (hs : (evs tb 28).c 10 [d] = some (.str ps)) (hps : tlen ps < 1000) (hi : i < 90)
    (k : ∀ s' fz' t, Sub fz fz' → Hp F fz' s' → Q (.str (txt V (cat (cat [.lit (dg i)] [.lit [32]]) ps)) t) s') :
    wpAny (model prog w) A (eval (.BinOp (.BinOp (.Call (.Name "str" a1) [.Name "at" a2] [] a3) .Add (.Constant (.str " ") 0 a4) a5) .Add (.Call (.Name "show_op" a6) [.Subscript (.Attribute (.Name "code" a7) "ops" a8) (.Name "at" a9) a10] [] a11) a12) env) Q No s := by
  have slg := sizeLine_ge
  have hsp : (Str.ofString " ") = txt V [.lit [32]] := rfl
  have hdg : (dg i).length ≤ 2 := by unfold dg; split <;> simp
  have lps := tlen_is hV (ps := ps) (by omega)
  obtain ⟨kO, rfl⟩ := hO
  refine wpAny_BinOp (wpAny_BinOp ?_)
  refine Call_ (name_Bi C O H gStr (k_ok w).str boot_str (by decide) (by decide) ?_)
  refine callWith_type1 ?_ (by rfl) rfl
  refine spliced_more (nm_l H O hL kAt hma (by decide) (spliced_none ?_)) (by rfl)
  have hstr : strOfD (.int ⟨0, .ofNat i⟩) = some (.str [.lit (dg i)]) := by
    have e : Nat.blt i 100 = true := by rw [Nat.blt_eq]; omega
    simp only [strOfD, numText, e]
  have hiv : VIn V fz (.int (i : Int) ti) (.int ⟨0, .ofNat i⟩) := by
    have e : (i : Int) = (IE.mk 0 (Int.ofNat i)).ev V := by rw [ev_const hV]; rfl
    rw [e]; exact .int _ _
  refine op_str hstr hV C hiv fz _ _ (Sub.refl _) H fun u s2 fz2 f2 H2 hu => ?_
  cases hu with
  | str _ t1 =>
  refine Calls.Constant_str ?_
  rw [hsp]
  refine SBL.add (fun t2 k2 _ => ?_) (by rw [txt_len, txt_len]; simp [csOf, Pc.cs]; omega)
  rw [← txt_cat]
  have H3 := H2.tok k2
  obtain ⟨_, _, CO⟩ := all_sound (prog := prog) (w := w) (p := p) (loose := loose) (mean := mean) (mg := mg) (mb := mb) hV (k_ok w) (tb_ok w.params) 28
  obtain ⟨a, N, hcall⟩ := CO 10 [d] _ hs
  refine Call_ (name_G (v := .ref a) C O H3 gShow N.ns N.dbg ?_)
  refine callWith_K C.kin N.keep ?_ (by rfl) (by rfl)
  refine spliced_more ?_ (by rfl)
  have mm : ∀ {z : Addr × Obj}, z ∈ fz ++ F.keep → z ∈ fz2 ++ F.keep := fun {z} h => by
    rcases List.mem_append.mp h with q | q
    · exact List.mem_append_left _ (f2 _ q)
    · exact List.mem_append_right _ q
  refine Subscript_ (attr_ok C H3 O hL kCode hm (mm hxo) (mm hdx) (by kernel_rfl) hl fun s4 H4 => nm_l H4 O hL kAt hma (by decide) ?_)
  have hlist : s4.heap.IsList oa vso.toArray := ⟨_, H4.nw.get (mm hoa), rfl, kO, rfl⟩
  have hlt : i < vso.length := (List.getElem?_eq_some_iff.mp hv).1
  refine tail_any hlist.typeIs slot_list_getitem.lookup (wpAny_getItem_list hlist (by simp) (by simp; omega) (x := v) (by simpa using hv) ?_) (by rfl)
  refine spliced_none ⟨C.kin.keeps H4.fr.keep, ?_⟩
  refine hcall F A fz2 [v] C (.cons (hvd.mono f2) .nil) fz2 s4 _ (Sub.refl _) H4 fun r s5 fz5 f5 H5 hr => ?_
  cases hr with
  | str _ t5 =>
  refine SBL.add (fun t6 k6 _ => ?_) (by
    rw [txt_cat]
    have e1 : (txt V [.lit (dg i)] ++ txt V [.lit [32]]).length = (dg i).length + 1 := by
      rw [Str.length_append, txt_len, txt_len]; simp [csOf, Pc.cs]
    rw [e1, txt_len]; omega)
  rw [← txt_cat]
  exact k _ fz5 t6 (f2.trans f5) (H5.tok k6)
end
end RegLaw

namespace RegLaw
open PySem PySem.Calls PySem.W PyProof.Rows

structure LcEnv (env : Env) : Prop where
  e : EOk env
  kCode : env.kindOf "code" = some .local
  kRows : env.kindOf "rows" = some .local
  kName : env.kindOf "name" = some .local
  kAt : env.kindOf "at" = some .local
  gSorted : env.kindOf "sorted" = some .globalImplicit
  gStr : env.kindOf "str" = some .globalImplicit
  gRange : env.kindOf "range" = some .globalImplicit
  gLen : env.kindOf "len" = some .globalImplicit
  gShow : env.kindOf "show_op" = some .globalImplicit
noncomputable def entryT (z : Str × Nat) : Str := ((Str.ofString "entry " ++ z.1) ++ Str.ofString " @") ++ txt V0 [.lit (dg z.2)]
theorem StrsAre.app : ∀ {a b : List Value} {x y : List Str}, StrsAre a x → StrsAre b y → StrsAre (a ++ b) (x ++ y)
  | _, _, _, _, .nil, h => h
  | _, _, _, _, .cons y t r, h => .cons y t (StrsAre.app r h)
theorem StrsAre.get : ∀ {a : List Value} {x : List Str} {i : Nat} {y : Str} {t : Tok}, StrsAre a x → a[i]? = some (.str y t) → x[i]? = some y
  | _, _, i, _, _, .nil, h => by simp at h
  | _, _, 0, _, _, .cons y t r, h => by simp at h; simp [h.1]
  | _, _, i + 1, _, _, .cons y t r, h => by
    simp only [List.getElem?_cons_succ] at h ⊢
    exact StrsAre.get r h

section
variable {prog : Program} {w : World} {A : Around} {p : Program} {loose : List Str} {mean : ExcName → Option Value} {mg mb : Str → Option Value} {env : Env} {h₀ : Heap} {s₀ : Shared} {rb x dx de oa : Addr} {es : List DictEntry} {c : Nat} {oE oO : Obj} {kvs : List (Str × Value)} {kp fz0 : List (Addr × Obj)}
theorem loop1_rest {I D : Addr} {lo : Obj} {s : Shared} {Q : Flow → Shared → Prop} {a1 a2 a3 a4 a5 a6 a7 a8 a9 a10 a11 a12 a13 a14 b1 b2 b3 b4 : Pos} (LE : LcEnv env) (hs : ∃ h tk, s = { s₀ with heap := h, toks := tk })
    (C : ∀ m keep, FOk (hd.heap_39 w.params) p loose mean mg mb ⟨h₀, env.locals, m, keep, s₀⟩ A 28) (hline : (b2.endLine == b3.line) = true)
    (hxo : (x, instObj 34 dx) ∈ fz0) (hdx : (dx, dictOf es c) ∈ fz0) (hl : getL "entries" es = some (some (.ref de))) (hde : (de, oE) ∈ fz0) (hd : oE.IsDictOf (PySem.strKind prog w) kvs) (hD : (D, lo) ∈ fz0) :
    ∀ (l : List (Str × Nat)) (vs : List Value) (m : Str → Option Value) (fz : List (Addr × Obj)) (oB : Obj) (us : List Value) (ss : List Str), StrsAre vs (l.map (·.1)) → (∀ z ∈ l, z.2 < 10 ∧ z.1.length ≤ 10 ∧ ∃ u d, valueAt kvs z.1 = some u ∧ VIn V0 fz0 u (.tup [.int ⟨0, .ofNat z.2⟩, d])) →
      Sub fz0 fz → (I :: (fz ++ ((rb, oB) :: kp)).map (·.1)).Nodup → SeqObj "list" us oB → StrsAre us ss → us.length + l.length ≤ 900 → m "code" = some (.ref x) → m "rows" = some (.ref rb) →
      (∀ s' m' fz' oB' us', Sub fz fz' → Hp ⟨h₀, env.locals, m', (rb, oB') :: kp, s₀⟩ fz' s' → SeqObj "list" us' oB' → StrsAre us' (ss ++ l.map entryT) → m' "code" = some (.ref x) → m' "rows" = some (.ref rb) → Q .next s') →
      ListRest prog w A No h₀ env "name" [.Expr (.Call (.Attribute (.Name "rows" b1) "append" b2) [.BinOp (.BinOp (.BinOp (.Constant (.str "entry ") 0 a1) .Add (.Name "name" a2) a3) .Add (.Constant (.str " @") 0 a4) a5) .Add (.Call (.Name "str" a6) [.Subscript (.Subscript (.Attribute (.Name "code" a7) "entries" a8) (.Name "name" a9) a10) (.Constant (.int 0) 0 a11) a12] [] a13) a14] [] b3) b4] Q s I (D, lo) vs m (fz ++ ((rb, oB) :: kp))
  | [], vs, m, fz, oB, us, ss, hS, hz, h0, nd, hB, hU, hlen, hmc, hmr, fin => by
    cases hS
    obtain ⟨hh, tk0, es0⟩ := hs
    refine ListRest.zero fun h tk F N => fin _ m fz oB us (Sub.refl _) ⟨F, N, (List.nodup_cons.mp nd).2, h, tk, by rw [es0]⟩ hB (by simpa using hU) hmc hmr
  | z :: l, vs, m, fz, oB, us, ss, hS, hz, h0, nd, hB, hU, hlen, hmc, hmr, fin => by
    rw [List.map_cons] at hS
    have hs' := hs
    obtain ⟨hh, tk0, es0⟩ := hs'
    generalize hzn : z.1 = zn at hS
    cases hS with
    | cons _ tn hS =>
    subst hzn
    refine ListRest.succ fun it h tk hcls F N => ?_
    have hperm : ∀ (fz : List (Addr × Obj)) (oB : Obj), (fz ++ ((rb, oB) :: (I, it) :: kp)).Perm ((I, it) :: (fz ++ ((rb, oB) :: kp))) := fun fz oB => perm_it fz [(rb, oB)] [] kp (I, it)
    have H1 : Hp ⟨h₀, env.locals, fun y => if y = "name" then some (.str z.1 tn) else m y, (rb, oB) :: (I, it) :: kp, s₀⟩ fz { s with heap := h, toks := tk } :=
      ⟨F, fun q hq => N q ((hperm fz oB).mem_iff.mp hq), ((hperm fz oB).map _).nodup_iff.mpr nd, h, tk, by rw [es0]⟩
    obtain ⟨hz1, hz2, u, d, hz3, hz4⟩ := hz z (.head _)
    have hmc1 : (fun y => if y = Str.ofString "name" then some (.str z.1 tn) else m y) "code" = some (.ref x) := by
      show (if Str.ofString "code" = Str.ofString "name" then _ else m "code") = _
      rw [if_neg (by decide)]; exact hmc
    have hmr1 : (fun y => if y = Str.ofString "name" then some (.str z.1 tn) else m y) "rows" = some (.ref rb) := by
      show (if Str.ofString "rows" = Str.ofString "name" then _ else m "rows") = _
      rw [if_neg (by decide)]; exact hmr
    have up : ∀ {q : Addr × Obj}, q ∈ fz0 → q ∈ fz ++ ((rb, oB) :: (I, it) :: kp) := fun {q} hq => List.mem_append_left _ (h0 _ hq)
    rw [List.length_cons] at hlen
    refine wpAny_execs_cons (push_ok (y := entryT z) H1 LE.e rfl LE.kRows hmr1 hB (by omega) (by rfl) hline (fun Q' hQ' => ?_) fun s2 fz2 oB2 t2 f2 H2 hB2 => ?_)
    · exact entry_ok (nmv := z.1) (q := z.2) (C _ _) H1 LE.e rfl LE.kCode LE.kName LE.gStr hmc1 (by rfl) (up hxo) (up hdx) hl (up hde) hd hz3 (hz4.mono h0) hz1 hz2 fun s' fz' t f H' => hQ' s' fz' t f H'
    · refine wpAny_execs_nil ?_
      obtain ⟨h2, tk2, es2⟩ := H2.sh
      have nd2 : (I :: (fz2 ++ ((rb, oB2) :: kp)).map (·.1)).Nodup := by
        have zz := ((hperm fz2 oB2).map (fun q : Addr × Obj => q.1)).nodup_iff.mp H2.nd
        exact zz
      refine ⟨s2.heap, s2.toks, _, fz2 ++ ((rb, oB2) :: kp), by rw [es2, es0], H2.fr, fun q hq => H2.nw q ((hperm fz2 oB2).mem_iff.mpr hq), fun q hq e => ?_, List.mem_append_left _ (f2 _ (h0 _ hD)), ?_⟩
      · have zz := List.mem_map_of_mem (f := fun q : Addr × Obj => q.1) hq
        simp only [e] at zz
        exact (List.nodup_cons.mp nd2).1 zz
      · refine loop1_rest LE hs C hline hxo hdx hl hde hd hD l _ _ fz2 oB2 _ (ss ++ [entryT z]) hS (fun z' hz' => hz z' (.tail _ hz')) (h0.trans f2) nd2 hB2 (StrsAre.app hU (.cons _ t2 .nil)) (by rw [List.length_append]; simp; omega) hmc1 hmr1 ?_
        intro s' m' fz' oB' us' g1 g2 g3 g4 g5 g6
        refine fin s' m' fz' oB' us' (f2.trans g1) g2 g3 ?_ g5 g6
        rw [List.map_cons]
        simpa using g4
end
end RegLaw

namespace RegLaw
open PySem PySem.Calls PySem.W PyProof.Rows

section
variable {prog : Program} {w : World} {A : Around} {p : Program} {loose : List Str} {mean : ExcName → Option Value} {mg mb : Str → Option Value} {env : Env} {h₀ : Heap} {s₀ : Shared} {rb x dx de oa : Addr} {es : List DictEntry} {c : Nat} {oE oO : Obj} {kvs : List (Str × Value)} {kp fz0 : List (Addr × Obj)}
theorem loop2_rest {I : Addr} {nn : Nat} {s : Shared} {Q : Flow → Shared → Prop} {vso vsr : List Value} {ys s0 : List Str} {a1 a2 a3 a4 a5 a6 a7 a8 a9 a10 a11 a12 b1 b2 b3 b4 : Pos} (LE : LcEnv env) (hs : ∃ h tk, s = { s₀ with heap := h, toks := tk })
    (C : ∀ m keep, FOk (hd.heap_39 w.params) p loose mean mg mb ⟨h₀, env.locals, m, keep, s₀⟩ A 28) (hline : (b2.endLine == b3.line) = true)
    (hxo : (x, instObj 34 dx) ∈ fz0) (hdx : (dx, dictOf es c) ∈ fz0) (hl : getL "ops" es = some (some (.ref oa))) (hoa : (oa, oO) ∈ kp) (hO : SeqObj "list" vso oO) (hrows : RowsOK fz0 nn vso vsr) (hys : StrsAre vsr ys) (hnn : nn ≤ 20) :
    ∀ (k i : Nat) (m : Str → Option Value) (fz : List (Addr × Obj)) (oB : Obj) (us : List Value), i + k = nn → Sub fz0 fz → (I :: (fz ++ ((rb, oB) :: kp)).map (·.1)).Nodup → SeqObj "list" us oB → StrsAre us (s0 ++ ys.take i) → us.length + k ≤ 900 → m "code" = some (.ref x) → m "rows" = some (.ref rb) →
      (∀ s' m' fz' oB' us', Sub fz fz' → Hp ⟨h₀, env.locals, m', (rb, oB') :: kp, s₀⟩ fz' s' → SeqObj "list" us' oB' → StrsAre us' (s0 ++ ys) → m' "rows" = some (.ref rb) → Q .next s') →
      RangeRest prog w A No h₀ env "at" [.Expr (.Call (.Attribute (.Name "rows" b1) "append" b2) [.BinOp (.BinOp (.Call (.Name "str" a1) [.Name "at" a2] [] a3) .Add (.Constant (.str " ") 0 a4) a5) .Add (.Call (.Name "show_op" a6) [.Subscript (.Attribute (.Name "code" a7) "ops" a8) (.Name "at" a9) a10] [] a11) a12] [] b3) b4] Q s I 0 nn k i m (fz ++ ((rb, oB) :: kp))
  | 0, i, m, fz, oB, us, hi, h0, nd, hB, hU, hlen, hmc, hmr, fin => by
    obtain ⟨hh, tk0, es0⟩ := hs
    have e : i = nn := by omega
    subst e
    have hl2 : ys.length = vsr.length := by
      have := hys.length
      omega
    rw [List.take_of_length_le (by rw [hl2, hrows.l2]; exact Nat.le_refl _)] at hU
    exact RangeRest.zero fun h tk F N => fin _ m fz oB us (Sub.refl _) ⟨F, N, (List.nodup_cons.mp nd).2, h, tk, by rw [es0]⟩ hB hU hmr
  | k + 1, i, m, fz, oB, us, hi, h0, nd, hB, hU, hlen, hmc, hmr, fin => by
    have hs' := hs
    obtain ⟨hh, tk0, es0⟩ := hs'
    refine RangeRest.succ fun t h tk F N => ?_
    let it : Obj := itR (0 + ((i + 1 : Nat) : Int)) ((nn : Int) - ((i + 1 : Nat) : Int))
    have hperm : ∀ (fz : List (Addr × Obj)) (oB : Obj), (fz ++ ((rb, oB) :: (I, it) :: kp)).Perm ((I, it) :: (fz ++ ((rb, oB) :: kp))) := fun fz oB => perm_it fz [(rb, oB)] [] kp (I, it)
    have H1 : Hp ⟨h₀, env.locals, fun y => if y = "at" then some (.int (0 + (i : Int)) t) else m y, (rb, oB) :: (I, it) :: kp, s₀⟩ fz { s with heap := h, toks := tk } :=
      ⟨F, fun q hq => N q ((hperm fz oB).mem_iff.mp hq), ((hperm fz oB).map _).nodup_iff.mpr nd, h, tk, by rw [es0]⟩
    have hmc1 : (fun y => if y = Str.ofString "at" then some (.int (0 + (i : Int)) t) else m y) "code" = some (.ref x) := by
      show (if Str.ofString "code" = Str.ofString "at" then _ else m "code") = _
      rw [if_neg (by decide)]; exact hmc
    have hmr1 : (fun y => if y = Str.ofString "at" then some (.int (0 + (i : Int)) t) else m y) "rows" = some (.ref rb) := by
      show (if Str.ofString "rows" = Str.ofString "at" then _ else m "rows") = _
      rw [if_neg (by decide)]; exact hmr
    have hma1 : (fun y => if y = Str.ofString "at" then some (Value.int (0 + (i : Int)) t) else m y) "at" = some (.int (i : Int) t) := by
      show (if Str.ofString "at" = Str.ofString "at" then some (Value.int (0 + (i : Int)) t) else m "at") = _
      rw [if_pos rfl, Int.zero_add]
    have up : ∀ {q : Addr × Obj}, q ∈ fz0 → q ∈ fz ++ ((rb, oB) :: (I, it) :: kp) := fun {q} hq => List.mem_append_left _ (h0 _ hq)
    have li1 : i < vso.length := by rw [hrows.l1]; omega
    have li2 : i < vsr.length := by rw [hrows.l2]; omega
    have hvi : vso[i]? = some vso[i] := by simp
    have hui : vsr[i]? = some vsr[i] := by simp
    obtain ⟨V, d, ps, ty, q1, q2, q3, q4, q5⟩ := hrows.row i _ _ hvi hui
    rw [q5] at hui
    have hyi := StrsAre.get hys hui
    refine wpAny_execs_cons (push_ok (y := txt V (cat (cat [.lit (dg i)] [.lit [32]]) ps)) H1 LE.e rfl LE.kRows hmr1 hB (by omega) (by rfl) hline (fun Q' hQ' => ?_) fun s2 fz2 oB2 t2 f2 H2 hB2 => ?_)
    · exact oprow_ok (V := V) (C _ _) H1 LE.e rfl LE.kCode LE.kAt LE.gStr LE.gShow hmc1 hma1 (up hxo) (up hdx) hl (List.mem_append_right _ (.tail _ (.tail _ hoa))) hO hvi q1 (q2.mono h0) q3 q4.1 (by omega) fun s' fz' t f H' => hQ' s' fz' t f H'
    · refine wpAny_execs_nil ?_
      obtain ⟨h2, tk2, es2⟩ := H2.sh
      have nd2 : (I :: (fz2 ++ ((rb, oB2) :: kp)).map (·.1)).Nodup := by
        have zz := ((hperm fz2 oB2).map (fun q : Addr × Obj => q.1)).nodup_iff.mp H2.nd
        exact zz
      refine ⟨s2.heap, s2.toks, _, fz2 ++ ((rb, oB2) :: kp), by rw [es2, es0], H2.fr, fun q hq => H2.nw q ((hperm fz2 oB2).mem_iff.mpr hq), fun q hq e => ?_, ?_⟩
      · have zz := List.mem_map_of_mem (f := fun q : Addr × Obj => q.1) hq
        simp only [e] at zz
        exact (List.nodup_cons.mp nd2).1 zz
      · refine loop2_rest (s0 := s0) LE hs C hline hxo hdx hl hoa hO hrows hys hnn k (i + 1) _ fz2 oB2 _ (by omega) (h0.trans f2) nd2 hB2 ?_ (by rw [List.length_append]; simp; omega) hmc1 hmr1 ?_
        · rw [List.take_add_one, hyi, ← List.append_assoc]
          exact StrsAre.app hU (.cons _ t2 .nil)
        · intro s' m' fz' oB' us' g1 g2 g3 g4 g5
          exact fin s' m' fz' oB' us' (f2.trans g1) g2 g3 g4 g5
end
end RegLaw

namespace RegLaw
open PySem PySem.Calls PySem.W PyProof.Rows

theorem RowsOK.strs {fz : List (Addr × Obj)} {i : Nat} {vso vsr : List Value} (h : RowsOK fz i vso vsr) : ∃ ys, StrsAre vsr ys := by
  have key : ∀ l : List Value, (∀ u ∈ l, ∃ y t, u = .str y t) → ∃ ys, StrsAre l ys := by
    intro l
    induction l with
    | nil => intro _; exact ⟨[], .nil⟩
    | cons u r ih =>
      intro hu
      obtain ⟨y, t, rfl⟩ := hu u (.head _)
      obtain ⟨ys, hys⟩ := ih fun v hv => hu v (.tail _ hv)
      exact ⟨y :: ys, .cons y t hys⟩
  refine key vsr fun u hu => ?_
  obtain ⟨k, hk, e⟩ := List.getElem_of_mem hu
  have h1 : k < vso.length := by rw [h.l1, ← h.l2]; exact hk
  obtain ⟨V, d, ps, t, _, _, _, _, q⟩ := h.row k vso[k] u (by simp) (by rw [List.getElem?_eq_getElem hk, e])
  exact ⟨_, t, q⟩

noncomputable def lcSc : Scope := { kind := ScopeKind.function, names := [(Str.ofString "code", NameKind.local), (Str.ofString "rows", NameKind.local), (Str.ofString "name", NameKind.local), (Str.ofString "at", NameKind.local), (Str.ofString "sorted", NameKind.globalImplicit), (Str.ofString "str", NameKind.globalImplicit), (Str.ofString "range", NameKind.globalImplicit), (Str.ofString "len", NameKind.globalImplicit), (Str.ofString "show_op", NameKind.globalImplicit)], isGenerator := false, isCoroutine := false }
section
variable {prog : Program} {w : World} {A : Around} {F : Fx} {fz : List (Addr × Obj)} {p : Program} {loose : List Str} {mean : ExcName → Option Value} {mg mb : Str → Option Value}
theorem list_ok {x dx de oa : Addr} {es : List DictEntry} {c nn : Nat} {oE oO : Obj} {u1 u2 : Value} {d1 d2 : SD} {vso vsr : List Value} {ys : List Str} {s : Shared} {Q : Value → Shared → Prop}
    (C : FOk (hd.heap_39 w.params) p loose mean mg mb F A 32) (H : Hp F fz s)
    (hxo : (x, instObj 34 dx) ∈ fz) (hdx : (dx, dictOf es c) ∈ fz) (hle : getL "entries" es = some (some (.ref de))) (hlo : getL "ops" es = some (some (.ref oa))) (hde : (de, oE) ∈ fz) (hd : oE.IsDictOf (PySem.strKind prog w) [("S", u1), ("E", u2)]) (lo : (de == sysModules) = false)
    (hu1 : VIn V0 fz u1 (.tup [.int ⟨0, .ofNat 0⟩, d1])) (hu2 : VIn V0 fz u2 (.tup [.int ⟨0, .ofNat 2⟩, d2])) (hoa : (oa, oO) ∈ F.keep) (hO : SeqObj "list" vso oO) (hrows : RowsOK fz nn vso vsr) (hys : StrsAre vsr ys) (hnn : nn ≤ 20)
    (k : ∀ s' fz' D oD us, Sub fz fz' → Hp F fz' s' → (D, oD) ∈ fz' → SeqObj "list" us oD → StrsAre us ([entryT ("E", 2), entryT ("S", 0)] ++ ys) → Q (.ref D) s') : wpAny (model prog w) A (call (.ref 112) [.ref x]) Q No s := by
  obtain ⟨A₀, base, outer, env, B, hA, hf, hke⟩ := C.below
  refine wpAny_call (code_def (binds := [("code", .ref x)]) B H.fr C.kin H.nw C.top hA hf hke (by rfl) (by kernel_rfl) (by have := C.depth; omega) (.of_eq (by rfl)) ?_ ?_ (by rfl) (by rfl) (by rfl) (by decide))
  · intro y hy
    rcases List.mem_cons.mp hy with rfl | hy
    · rfl
    · cases hy
  intro g L' h₁ FG F' N' B' X' T'
  obtain ⟨hh0, tk0, es0⟩ := H.sh
  have H₀ : Hp ⟨g, L', fun y => List.lookup y [(Str.ofString "code", Value.ref x)].reverse, F.keep, F.s₀⟩ fz { s with heap := h₁, toks := s.toks + [(Str.ofString "code", Value.ref x)].length } := ⟨F', N', H.nd, h₁, _, by rw [es0]⟩
  refine wpAny_mono ?_ (fun _ _ x => x) (fun _ _ x => False.elim x)
  revert H₀
  generalize ({ s with heap := h₁, toks := s.toks + [(Str.ofString "code", Value.ref x)].length } : Shared) = s₁
  intro H₀
  have LE : LcEnv (envOf (Str.ofString "list_code") lcSc L' 112 (.ref 111)) := ⟨⟨rfl, rfl, rfl⟩, rfl, rfl, rfl, rfl, rfl, rfl, rfl, rfl, rfl⟩
  have CC : ∀ m keep, FOk (_root_.RegLaw.hd.heap_39 w.params) p loose mean mg mb ⟨g, L', m, keep, F.s₀⟩ (A.deeper (envOf (Str.ofString "list_code") lcSc L' 112 (.ref 111))) 28 := fun m keep =>
    ⟨⟨A, base, env :: outer, envOf (Str.ofString "list_code") lcSc L' 112 (.ref 111), B', by show A.frames.map _ = _; rw [hA]; rfl, rfl, rfl⟩, X', T', C.handled, C.guards, by show A.depth + 1 + 28 < _; have := C.depth; omega, by show A.units + 3 + 8 * 28 + 100 < _; have := C.units; omega⟩
  refine wpAny_execs_cons (empty_ok LE.e rfl LE.kRows H₀ fun s2 rb oB hB H1 => ?_)
  have H2 : Hp ⟨g, L', fun y => if y = "rows" then some (.ref rb) else List.lookup y [(Str.ofString "code", Value.ref x)].reverse, (rb, oB) :: F.keep, F.s₀⟩ fz s2 := H1.perm rfl rfl rfl rfl List.perm_middle
  refine wpAny_execs_cons ?_
  refine For_invVF H2.fr LE.kName (by rfl) ?_ (by intro _; rfl) PassesOwn.never
  refine Call_ (name_Bi (CC _ _) LE.e H2 LE.gSorted (by kernel_rfl) boot_sorted (by decide) (by decide) ?_)
  refine callWith_method1 (first := []) ?_ (by rfl) rfl
  refine spliced_more ?_ (by rfl)
  refine attr_ok (CC _ _) H2 LE.e rfl LE.kCode (by rfl) (List.mem_append_left _ hxo) (List.mem_append_left _ hdx) (by kernel_rfl) hle fun s3 H3 => spliced_none ?_
  refine sorted_ok C.handled H3 (List.mem_append_left _ hde) hd lo fun s4 D t1 t2 c4 H4 => ?_
  refine iter_listUnr (vs := [.str "E" t1, .str "S" t2]) (n := c4) C.handled H4.fr H4.nw (.head _) rfl rfl fun I hI => ?_
  have nodI : ∀ {l : List (Addr × Obj)} {J : Addr}, (l.map (·.1)).Nodup → (∀ q ∈ l, q.1 < J) → (J :: l.map (·.1)).Nodup := fun {l J} nd hJ => by
    refine List.nodup_cons.mpr ⟨fun hm => ?_, nd⟩
    obtain ⟨q', hq', e⟩ := List.mem_map.mp hm
    have z := hJ q' hq'
    rw [e] at z
    exact Nat.lt_irrefl _ z
  have upc : ∀ {q : Addr × Obj} {y : Addr × Obj}, q ∈ fz → q ∈ y :: fz := fun h => .tail _ h
  refine loop1_rest (kp := F.keep) (fz0 := (D, listOf [.str "E" t1, .str "S" t2].toArray c4) :: fz) LE H4.sh CC ?_ (upc hxo) (upc hdx) hle (upc hde) hd (.head _) [(Str.ofString "E", 2), (Str.ofString "S", 0)] _ _ _ oB [] []
    (.cons _ t1 (.cons _ t2 .nil)) ?_ (Sub.refl _) (nodI H4.nd hI) hB .nil (by simp) ?_ ?_ fun s5 m5 fz5 oB5 us5 f5 H5 hB5 hU5 hmc5 hmr5 => ?_
  · decide
  · intro z hz
    rcases List.mem_cons.mp hz with rfl | hz
    · exact ⟨by decide, by decide, u2, d2, by rfl, hu2.mono (Sub.cons _)⟩
    · rw [List.mem_singleton.mp hz]
      exact ⟨by decide, by decide, u1, d1, by rfl, hu1.mono (Sub.cons _)⟩
  · rfl
  · rfl
  have f05 : Sub fz fz5 := (Sub.cons _).trans f5
  have hmem5 : ∀ {q : Addr × Obj}, q ∈ fz → q ∈ fz5 ++ ((rb, oB5) :: F.keep) := fun h => List.mem_append_left _ (f05 _ h)
  refine wpAny_execs_cons ?_
  refine For_invVF H5.fr LE.kAt (by rfl) ?_ (folded_range _) PassesOwn.never
  refine Call_ (name_Bi (CC _ _) LE.e H5 LE.gRange (k_ok w).range boot_range (by decide) (by decide) ?_)
  refine callWith_type1 ?_ (by rfl) rfl
  refine spliced_more ?_ (by rfl)
  refine Call_ (name_Bi (CC _ _) LE.e H5 LE.gLen (k_ok w).len boot_len (by decide) (by decide) ?_)
  refine callWith_method1 (first := []) ?_ (by rfl) rfl
  refine spliced_more ?_ (by rfl)
  refine attr_ok (CC _ _) H5 LE.e rfl LE.kCode hmc5 (hmem5 hxo) (hmem5 hdx) (by kernel_rfl) hlo fun s6 H6 => spliced_none ?_
  obtain ⟨kO, hkO⟩ := id hO
  have hgo := H6.nw.get (List.mem_append_right fz5 (List.mem_cons_of_mem (rb, oB5) hoa))
  rw [hkO] at hgo
  have lO := hrows.l1
  refine call_len_list ⟨_, hgo, rfl, kO, rfl⟩ (by rw [List.size_toArray]; omega) (spliced_none ?_)
  have H7 := H6.tok (s6.toks + 1 + 1)
  have hnn' : ((vso.toArray.size : Nat) : Int) = ((nn : Nat) : Int) := by rw [List.size_toArray, lO]
  rw [hnn']
  refine range1_rows H7.fr H7.nw fun h7 tk t₁ u₁ v₁ hr F8 N8 _ => ?_
  have H8 := H7.at (t := tk) F8 N8
  refine iter_rangeUnr (n := nn) C.handled hr (small_one (by decide) (by decide) (by omega) (by omega)) (by rw [rangeSize_nat]; omega) H8.fr H8.nw fun J hJ => ?_
  refine loop2_rest (kp := F.keep) (fz0 := fz5) (s0 := [entryT ("E", 2), entryT ("S", 0)]) LE H8.sh CC ?_ (f05 _ hxo) (f05 _ hdx) hlo hoa hO (hrows.mono f05) hys hnn nn 0 _ fz5 oB5 us5 (by omega) (Sub.refl _) (nodI H8.nd hJ) hB5 (by simpa using hU5) ?_ hmc5 hmr5 fun s9 m9 fz9 oB9 us9 f9 H9 hB9 hU9 hmr9 => ?_
  · decide
  · have := hU5.length
    simp at this
    omega
  refine wpAny_execs_cons (wpAny_Return_some (nm_l H9 LE.e rfl LE.kRows hmr9 (by decide) ?_))
  have hp : (((rb, oB9) :: fz9) ++ F.keep).Perm (fz9 ++ ((rb, oB9) :: F.keep)) := List.perm_middle.symm
  refine leaveK_ (news' := ((rb, oB9) :: fz9) ++ F.keep) H9.fr (fun q hq => H9.nw q (hp.mem_iff.mp hq)) fun F₃ N₃ => ?_
  exact k s9 ((rb, oB9) :: fz9) rb oB9 us9 ((f05.trans f9).trans (Sub.cons _)) ⟨F₃, N₃, (hp.map _).nodup_iff.mpr H9.nd, H9.sh⟩ (.head _) hB9 hU9
end
end RegLaw

namespace RegLaw
open PySem PySem.Calls PySem.W PyProof.Rows

theorem strOk_app {a b : Str} (ha : PyData.canLay0 (.str a) = true) (hb : PyData.canLay0 (.str b) = true) : PyData.canLay0 (.str (a ++ b)) = true := by
  have e : ∀ x : Str, PyData.canLay0 (.str x) = x.cps.all fun c => decide (c < 0x110000) := fun x => by rw [PyData.canLay0]; rfl
  rw [e] at ha hb ⊢
  have e2 : (a ++ b).cps = a.cps ++ b.cps := rfl
  rw [e2, Array.all_append, ha, hb]
  rfl
theorem lay_all : ∀ {ys : List Str}, (∀ y ∈ ys, PyData.canLay0 (.str y) = true) → PyData.canLayAll0 (ys.map .str) = true ∧ PyData.depthAll (ys.map .str) = 0
  | [], _ => ⟨rfl, rfl⟩
  | y :: ys, h => by
    obtain ⟨h1, h2⟩ := lay_all fun z hz => h z (.tail _ hz)
    rw [List.map_cons, PyData.canLayAll0, PyData.depthAll, h y (.head _), h1, h2]
    exact ⟨rfl, rfl⟩
theorem lay_list {ys : List Str} (h : ∀ y ∈ ys, PyData.canLay0 (.str y) = true) : PySem.SeqAt.shaped (.list (ys.map .str)) = true := by
  obtain ⟨h1, h2⟩ := lay_all h
  unfold PySem.SeqAt.shaped
  rw [PyData.canLay0, PyData.depth, h1, h2]
  decide
theorem row_lay {V : Vl} (hV : V.Ok) {i : Nat} {ps : List Pc} (hi : i < 100) (h : Fit ps) : PyData.canLay0 (.str (txt V (cat (cat [.lit (dg i)] [.lit [32]]) ps))) = true := by
  have lit : ∀ l : List Nat, (l.all fun c => Nat.blt c 128) = true → PyData.canLay0 (.str (txt V [.lit l])) = true := fun l hl => by
    have := (toPy_lay hV 12 (.str [.lit l]) (by simp [SD.ok]; simpa using hl)).1
    rw [toPy] at this
    exact this
  have hps := (toPy_lay hV 12 (.str ps) h.2).1
  rw [toPy] at hps
  rw [txt_cat, txt_cat]
  refine strOk_app (strOk_app (lit _ ?_) (lit _ (by decide))) hps
  unfold dg
  split
  · rename_i h10
    rw [Nat.blt_eq] at h10
    simp [Nat.blt_eq]; omega
  · simp [Nat.blt_eq]; omega
section
variable {prog : Program} {w : World} {A : Around} {F : Fx} {fz : List (Addr × Obj)} {p : Program} {loose : List Str} {mean : ExcName → Option Value} {mg mb : Str → Option Value} {env : Env} {h₀ : Heap} {s₀ : Shared} {m : Str → Option Value} {kp : List (Addr × Obj)}
/- an expression without names -/
theorem lit_ok {e : X} {d : SD} (C : FOk (hd.heap_39 w.params) p loose mean mg mb ⟨h₀, env.locals, m, kp, s₀⟩ A 28) (O : EOk env) (cel : ∀ y, env.kindOf y = some .cell → (env.cells.lookup y).isSome = true) (h : (evs tb 28).x false ⟨[], [], [], .none⟩ e = some d) (hc : chk ⟨env.scope, none⟩ e = true)
    {s : Shared} (H : Hp ⟨h₀, env.locals, m, kp, s₀⟩ fz s) : EvV prog w V0 ⟨h₀, env.locals, m, kp, s₀⟩ A (eval e.py env) fz d := by
  obtain ⟨E, _, _⟩ := all_sound (prog := prog) (w := w) (p := p) (loose := loose) (mean := mean) (mg := mg) (mb := mb) V0_ok (k_ok w) (tb_ok w.params) 28
  let R : Rc := ⟨h₀, env, kp, s₀⟩
  have RO : RcOk R := ⟨O, cel⟩
  have HS : SR R V0 ⟨[], [], [], .none⟩ m fz [] [] s := ⟨H, fun x d hx => by simp [look] at hx, .nil, .nil⟩
  exact ex_v (R := R) (cells := []) (ow := []) (E := E) C RO h hc HS
theorem strs_eq {D D2 : Addr} {o o2 : Obj} {us us2 : List Value} {ys : List Str} {s : Shared} {Q : Value → Shared → Prop} (hu : A.units + 64 < cLine) (H : Hp F fz s) (h1 : (D, o) ∈ fz) (h2 : (D2, o2) ∈ fz) (q1 : SeqObj "list" us o) (q2 : SeqObj "list" us2 o2) (r1 : StrsAre us ys) (r2 : StrsAre us2 ys) (hy : ∀ y ∈ ys, PyData.canLay0 (.str y) = true)
    (k : Q (.bool true) s) : wpAny (model prog w) A (compareOp .Eq (.ref D) (.ref D2)) Q No s := by
  obtain ⟨c1, rfl⟩ := q1
  obtain ⟨c2, rfl⟩ := q2
  have ra := reads_list_at (h := s.heap) (H.get h1) rfl rfl (xs := ys.map .str) (as := []) (by simpa using r1.reads s.heap)
  have rb := reads_list_at (h := s.heap) (H.get h2) rfl rfl (xs := ys.map .str) (as := []) (by simpa using r2.reads s.heap)
  have hl := lay_list hy
  refine eq_dataH ra rb hl hl hu ?_
  rw [PySem.SeqAt.eqv_refl _ (PySem.SeqAt.canLay_of_shaped hl)]
  exact k
theorem ents_ok {x1 x2 : Expr} {dA dB : SD} {s : Shared} {Q : Value → Shared → Prop} {a1 a2 a3 : Pos} (hlim : h₀.NoLimit)
    (L1 : ∀ kp fz, (∃ s, Hp ⟨h₀, env.locals, m, kp, s₀⟩ fz s) → EvV prog w V0 ⟨h₀, env.locals, m, kp, s₀⟩ A (eval x1 env) fz (.tup [.int ⟨0, .ofNat 0⟩, dA])) (L2 : ∀ kp fz, (∃ s, Hp ⟨h₀, env.locals, m, kp, s₀⟩ fz s) → EvV prog w V0 ⟨h₀, env.locals, m, kp, s₀⟩ A (eval x2 env) fz (.tup [.int ⟨0, .ofNat 2⟩, dB]))
    (H : Hp ⟨h₀, env.locals, m, kp, s₀⟩ fz s)
    (k : ∀ s' fz' d od u1 u2, Sub fz fz' → Hp ⟨h₀, env.locals, m, kp, s₀⟩ fz' s' → (d, od) ∈ fz' → od.IsDictOf (PySem.strKind prog w) [("S", u1), ("E", u2)] → (d == sysModules) = false → VIn V0 fz' u1 (.tup [.int ⟨0, .ofNat 0⟩, dA]) → VIn V0 fz' u2 (.tup [.int ⟨0, .ofNat 2⟩, dB]) → Q (.ref d) s') :
    wpAny (model prog w) A (eval (.Dict [some (.Constant (.str "S") 0 a1), some (.Constant (.str "E") 0 a2)] [x1, x2] a3) env) Q No s := by
  refine kdn_str rfl H.fr H.nw hlim rfl rfl (List.cons_ne_nil _ _) (by simp) fun d h' o F' N' lt lo hd => ?_
  have H1 := H.add' F' N' lt
  have H2 : Hp ⟨h₀, env.locals, m, (d, o) :: kp, s₀⟩ fz _ := H1.perm rfl rfl rfl rfl List.perm_middle
  refine pairTrees_cons_walk (Calls.Constant_str ?_)
  have H3 := H2.tok (s.toks + 1)
  refine L1 _ _ ⟨_, H3⟩ fz _ _ (Sub.refl _) H3 fun u1 s4 fz4 f4 H4 hu1 => ?_
  refine pairTrees_cons_walk (Calls.Constant_str ?_)
  have H5 := H4.tok (s4.toks + 1)
  refine L2 _ _ ⟨_, H5⟩ fz4 _ _ (Sub.refl _) H5 fun u2 s6 fz6 f6 H6 hu2 => ?_
  refine pairTrees_nil_walk ?_
  refine display_done_str (by rfl) (show ([Str.ofString "S", Str.ofString "E"] : List Str).Nodup by decide) (Heap.dictOf_iff.mpr ⟨o, H6.nw.get (List.mem_append_right _ (.head _)), hd⟩) fun h3 hmm hs => ?_
  obtain ⟨o', ho', hd'⟩ := Heap.dictOf_iff.mp hmm
  have H7 := Hp.upd (F := ⟨h₀, env.locals, m, [], s₀⟩) (k1 := []) (t := s6.toks + 2) H6 hs ho'
  have H8 : Hp ⟨h₀, env.locals, m, kp, s₀⟩ ((d, o') :: fz6) _ := H7.perm rfl rfl rfl rfl List.perm_middle.symm
  exact k _ ((d, o') :: fz6) d o' u1 u2 ((f4.trans f6).trans (Sub.cons _)) H8 (.head _) hd' lo (hu1.mono (f6.trans (Sub.cons _))) (hu2.mono (Sub.cons _))
end
end RegLaw

namespace RegLaw
open PySem PySem.Calls PySem.W PyProof.Rows

theorem StrsAre.at_ : ∀ {a : List Value} {x : List Str} {y : Str}, StrsAre a x → y ∈ x → ∃ (k : Nat) (t : Tok), a[k]? = some (.str y t)
  | _, _, _, .nil, h => by cases h
  | _, _, y, .cons z t r, h => by
    rcases List.mem_cons.mp h with rfl | h
    · exact ⟨0, t, rfl⟩
    · obtain ⟨k, u, e⟩ := StrsAre.at_ r h
      exact ⟨k + 1, u, by simpa using e⟩
theorem RowsOK.lay {fz : List (Addr × Obj)} {i : Nat} {vso vsr : List Value} {ys : List Str} (h : RowsOK fz i vso vsr) (hi : i ≤ 20) (hys : StrsAre vsr ys) : ∀ y ∈ ys, PyData.canLay0 (.str y) = true := by
  intro y hy
  obtain ⟨k, t, e⟩ := StrsAre.at_ hys hy
  have hk : k < vsr.length := (List.getElem?_eq_some_iff.mp e).1
  have hk2 : k < vso.length := by rw [h.l1, ← h.l2]; exact hk
  obtain ⟨V, d, ps, t2, q1, q2, q3, q4, q5⟩ := h.row k vso[k] _ (by simp) e
  cases q5
  exact row_lay q1 (by have := h.l2; omega) q4

section
variable {prog : Program} {w : World} {A : Around} {fz : List (Addr × Obj)} {p : Program} {loose : List Str} {mean : ExcName → Option Value} {mg mb : Str → Option Value} {env : Env} {h₀ : Heap} {s₀ : Shared} {m : Str → Option Value} {kp : List (Addr × Obj)} {cS cN : Addr}
theorem end_ok {x1 x2 : Expr} {dA dB : SD} {oa ra : Addr} {oO oR : Obj} {vso vsr : List Value} {nn : Nat} {s : Shared} {Q : Flow → Shared → Prop} {a1 a2 a3 c1 c2 c3 c4 c5 c6 c7 r1 r2 r3 r4 r5 r6 r7 r8 r9 r10 : Pos}
    (LE : LawEnv env cS cN) (kCode : env.kindOf "code" = some .local) (gCode : env.kindOf "Code" = some .globalImplicit) (gList : env.kindOf "list_code" = some .globalImplicit) (C : ∀ m kp, FOk (hd.heap_39 w.params) p loose mean mg mb ⟨h₀, env.locals, m, kp, s₀⟩ A 40)
    (L1 : ∀ kp fz, (∃ s, Hp ⟨h₀, env.locals, m, kp, s₀⟩ fz s) → EvV prog w V0 ⟨h₀, env.locals, m, kp, s₀⟩ A (eval x1 env) fz (.tup [.int ⟨0, .ofNat 0⟩, dA])) (L2 : ∀ kp fz, (∃ s, Hp ⟨h₀, env.locals, m, kp, s₀⟩ fz s) → EvV prog w V0 ⟨h₀, env.locals, m, kp, s₀⟩ A (eval x2 env) fz (.tup [.int ⟨0, .ofNat 2⟩, dB]))
    (H : Hp ⟨h₀, env.locals, m, kp, s₀⟩ fz s) (hoa : (oa, oO) ∈ kp) (hra : (ra, oR) ∈ kp) (hO : SeqObj "list" vso oO) (hR : SeqObj "list" vsr oR) (hmO : m "ops" = some (.ref oa)) (hmR : m "rows" = some (.ref ra)) (hrows : RowsOK fz nn vso vsr) (hnn : nn ≤ 20)
    (k : ∀ s' m' fz', Hp ⟨h₀, env.locals, m', kp, s₀⟩ fz' s' → Q (.ret (.bool true)) s') :
    wpAny (model prog w) A (execs [
      .Assign [.Name "code" c1] (.Call (.Name "Code" c2) [.Name "ops" c3, .Constant (.int 9) 0 c4, .Dict [some (.Constant (.str "S") 0 a1), some (.Constant (.str "E") 0 a2)] [x1, x2] a3, .Dict [] [] c5] [] c6) c7,
      .Return (some (.Compare (.Call (.Name "list_code" r1) [.Name "code" r2] [] r3) [.Eq] [.BinOp (.List [.Constant (.str "entry E @2") 0 r4, .Constant (.str "entry S @0") 0 r5] r6) .Add (.Name "rows" r7) r8] r9)) r10] env) Q No s := by
  have C28 : ∀ m kp, FOk (hd.heap_39 w.params) p loose mean mg mb ⟨h₀, env.locals, m, kp, s₀⟩ A 28 := fun m kp => ⟨(C m kp).below, (C m kp).kin, (C m kp).top, (C m kp).handled, (C m kp).guards, by have := (C m kp).depth; omega, by have := (C m kp).units; omega⟩
  have C32 : ∀ m kp, FOk (hd.heap_39 w.params) p loose mean mg mb ⟨h₀, env.locals, m, kp, s₀⟩ A 32 := fun m kp => ⟨(C m kp).below, (C m kp).kin, (C m kp).top, (C m kp).handled, (C m kp).guards, by have := (C m kp).depth; omega, by have := (C m kp).units; omega⟩
  have C5 : ∀ m kp, FOk (hd.heap_39 w.params) p loose mean mg mb ⟨h₀, env.locals, m, kp, s₀⟩ A 5 := fun m kp => ⟨(C m kp).below, (C m kp).kin, (C m kp).top, (C m kp).handled, (C m kp).guards, by have := (C m kp).depth; omega, by have := (C m kp).units; omega⟩
  -- code = Code(...)
  refine wpAny_execs_cons (wpAny_Assign_Name (hs := rfl) (Call_ (name_G (v := .ref 34) (C _ _) LE.e H gCode (by kernel_rfl) (by decide) ?_)))
  refine callWith_K (C m kp).kin (by kernel_rfl) ?_ (by rfl) (by rfl)
  refine spliced_more (nm_l H LE.e rfl LE.kOps hmO (by decide) ?_) (by rfl)
  refine spliced_more (wpAny_Constant_int ?_) (by rfl)
  have H1 := H.tok (s.toks + 1)
  refine spliced_more (ents_ok (C m kp).top.nolimit L1 L2 H1 fun s2 fz2 d od u1 u2 f2 H2 hd hdd lo hu1 hu2 => ?_) (by rfl)
  refine spliced_more ?_ (by rfl)
  refine ev_emp (V := V0) (q := c5) (env := env) (fz₀ := fz2) (C28 m kp) fz2 s2 _ (Sub.refl _) H2 fun v3 s3 fz3 f3 H3 hv3 => spliced_none ?_
  refine ⟨(C m kp).kin.keeps H3.fr.keep, ?_⟩
  refine make_code (C5 m kp) H3 fun s4 x dx es n hlo hle H4 => ?_
  refine st_l H4 LE.e rfl kCode fun s5 H5 => ?_
  -- the answer
  obtain ⟨ys, hys⟩ := hrows.strs
  have f14 : ∀ {z : Addr × Obj}, z ∈ fz2 → z ∈ (x, instObj 34 dx) :: (dx, dictOf es n) :: fz3 := fun h => .tail _ (.tail _ (f3 _ h))
  have sf : Sub fz2 ((x, instObj 34 dx) :: (dx, dictOf es n) :: fz3) := fun z h => f14 h
  refine wpAny_execs_cons (wpAny_Return_some (wpAny_Compare1 (hm := by rfl) ?_))
  refine Call_ (name_G (v := .ref 112) (C _ _) LE.e H5 gList (by kernel_rfl) (by decide) ?_)
  refine callWith_K (C m kp).kin (by kernel_rfl) ?_ (by rfl) (by rfl)
  refine spliced_more (nm_l H5 LE.e rfl kCode (by rfl) (by decide) (spliced_none ?_)) (by rfl)
  refine ⟨(C m kp).kin.keeps H5.fr.keep, ?_⟩
  refine list_ok (C32 _ _) H5 (.head _) (.tail _ (.head _)) hle hlo (f14 hd) hdd lo (hu1.mono sf) (hu2.mono sf) hoa hO (hrows.mono (f2.trans sf)) hys hnn fun s6 fz6 D oD us f6 H6 hD hOD hU => ?_
  refine wpAny_BinOp (List_ (spliced_more (Calls.Constant_str (spliced_more (Calls.Constant_str (spliced_none ?_)) (by rfl))) (by rfl)))
  have H7 := H6.tok (s6.toks + 1 + 1)
  refine newList_N H7.fr H7.nw (fun h8 F8 N8 => ?_) (by have := sizeLine_ge; simp; omega)
  have H8 := H7.new (k := 0) F8 N8
  have hmR8 : (fun y => if y = Str.ofString "code" then some (.ref x) else m y) "rows" = some (.ref ra) := by
    show (if Str.ofString "rows" = Str.ofString "code" then _ else m "rows") = _
    rw [if_neg (by decide)]; exact hmR
  refine nm_l H8 LE.e rfl LE.kRows hmR8 (by decide) ?_
  obtain ⟨cR, hcR⟩ := id hR
  have hl2 := H8.nw.get (List.mem_append_right _ hra)
  rw [hcR] at hl2
  refine add_lists (vs := [.str "entry E @2" s6.toks, .str "entry S @0" (s6.toks + 1)]) (ws := vsr) H8.fr H8.nw ⟨_, H8.get (.head _), rfl, 0, rfl⟩ ⟨_, hl2, rfl, cR, rfl⟩ (fun h9 F9 N9 => ?_) (by have := sizeLine_ge; have := hrows.l2; simp; omega)
  have H9 := H8.new (k := 0) F9 N9
  have e1 : entryT ("E", 2) = Str.ofString "entry E @2" := by decide
  have e2 : entryT ("S", 0) = Str.ofString "entry S @0" := by decide
  rw [e1, e2] at hU
  refine strs_eq (by have := (C m kp).units; omega) H9 (.tail _ (.tail _ hD)) (.head _) hOD ⟨0, rfl⟩ hU (StrsAre.app (.cons _ _ (.cons _ _ .nil)) hys) (fun y hy => ?_) (k _ _ _ H9)
  rcases List.mem_append.mp hy with hy | hy
  · rcases List.mem_cons.mp hy with rfl | hy
    · rw [PyData.canLay0]; decide +kernel
    · rw [List.mem_singleton.mp hy, PyData.canLay0]; decide +kernel
  · exact hrows.lay hnn hys y hy
end
end RegLaw

namespace RegLaw
open PySem PySem.Calls PySem.W PyProof.Rows

noncomputable def bodyOf : Stmt → List Stmt
  | .FunctionDef _ _ b _ _ _ _ _ _ _ => b
  | .For _ _ b _ _ => b
  | _ => []
noncomputable def headOf : List Stmt → Stmt
  | s :: _ => s
  | [] => .Pass ⟨0, 0, 0, 0⟩
noncomputable def lawBody : List Stmt := bodyOf (stAt 24)
noncomputable def lawTurn : List Stmt := bodyOf (headOf (lawBody.drop 3))
noncomputable def lawEnd : List Stmt := lawBody.drop 4

theorem cast_execs {M : Model} {A : Around} {b b' : List Stmt} {env : Env} {Q : Flow → Shared → Prop} {E : Value → Shared → Prop} {s : Shared} (h : b' = b) (g : wpAny M A (execs b env) Q E s) : wpAny M A (execs b' env) Q E s := h ▸ g
noncomputable def litS (p1 p2 p3 p4 : Pos) : X := .tup [.int 0 p1, .lst [.str (Str.ofString "A") [65] p2] p3] p4
noncomputable def litE (p1 p2 p3 : Pos) : X := .tup [.int 2 p1, .lst [] p2] p3
theorem litS_py {p1 p2 p3 p4 : Pos} : (litS p1 p2 p3 p4).py = .Tuple [.Constant (.int 0) 0 p1, .List [.Constant (.str "A") 0 p2] p3] 0 p4 := by
  simp only [litS, X.py, pys] <;> rfl
theorem litE_py {p1 p2 p3 : Pos} : (litE p1 p2 p3).py = .Tuple [.Constant (.int 2) 0 p1, .List [] p2] 0 p3 := by
  simp only [litE, X.py, pys] <;> rfl
theorem litS_ev {p1 p2 p3 p4 : Pos} : (evs tb 28).x false ⟨[], [], [], .none⟩ (litS p1 p2 p3 p4) = some (.tup [.int ⟨0, .ofNat 0⟩, .lst [.str [.lit [65]]]]) := by rfl
theorem litE_ev {p1 p2 p3 : Pos} : (evs tb 28).x false ⟨[], [], [], .none⟩ (litE p1 p2 p3) = some (.tup [.int ⟨0, .ofNat 2⟩, .lst []]) := by rfl
theorem litS_chk {sc : Scope} {p1 p2 p3 p4 : Pos} : chk ⟨sc, none⟩ (litS p1 p2 p3 p4) = true := by rfl
theorem litE_chk {sc : Scope} {p1 p2 p3 : Pos} : chk ⟨sc, none⟩ (litE p1 p2 p3) = true := by rfl

section
variable {prog : Program} {w : World} {A : Around} {p : Program} {loose : List Str} {mean : ExcName → Option Value} {mg mb : Str → Option Value} {env : Env} {h₀ : Heap} {s₀ : Shared} {cS cN sd oa ra sl : Addr} {oS oL : Obj} {vs : List Value} {ns : List Int}
theorem law_turn (LE : LawEnv env cS cN) (hoS : oS.data = .cell (some (.ref sd))) (hL : SeqObj "list" vs oL) (hI : IntsAre vs ns) (hlen : vs.length ≤ 1000) :
    TurnOK prog w p loose mean mg mb A env h₀ s₀ cS cN sd oa ra sl oS oL lawTurn := by
  unfold lawTurn
  exact turn_ok LE hoS hL hI hlen rfl rfl rfl rfl

theorem lawEnd_ok {m : Str → Option Value} {fz kp : List (Addr × Obj)} {oO oR : Obj} {vso vsr : List Value} {nn : Nat} {s : Shared} {Q : Flow → Shared → Prop}
    (LE : LawEnv env cS cN) (kCode : env.kindOf "code" = some .local) (gCode : env.kindOf "Code" = some .globalImplicit) (gList : env.kindOf "list_code" = some .globalImplicit) (C : ∀ m kp, FOk (hd.heap_39 w.params) p loose mean mg mb ⟨h₀, env.locals, m, kp, s₀⟩ A 40)
    (H : Hp ⟨h₀, env.locals, m, kp, s₀⟩ fz s) (hoa : (oa, oO) ∈ kp) (hra : (ra, oR) ∈ kp) (hO : SeqObj "list" vso oO) (hR : SeqObj "list" vsr oR) (hmO : m "ops" = some (.ref oa)) (hmR : m "rows" = some (.ref ra)) (hrows : RowsOK fz nn vso vsr) (hnn : nn ≤ 20)
    (k : ∀ s' m' fz', Hp ⟨h₀, env.locals, m', kp, s₀⟩ fz' s' → Q (.ret (.bool true)) s') : wpAny (model prog w) A (execs lawEnd env) Q No s := by
  have C28 : ∀ m kp, FOk (hd.heap_39 w.params) p loose mean mg mb ⟨h₀, env.locals, m, kp, s₀⟩ A 28 := fun m kp => ⟨(C m kp).below, (C m kp).kin, (C m kp).top, (C m kp).handled, (C m kp).guards, by have := (C m kp).depth; omega, by have := (C m kp).units; omega⟩
  unfold lawEnd
  refine end_ok (dA := .lst [.str [.lit [65]]]) (dB := .lst []) LE kCode gCode gList C (fun kp fz hs => ?_) (fun kp fz hs => ?_) H hoa hra hO hR hmO hmR hrows hnn k
  · obtain ⟨s, H⟩ := hs
    rw [← litS_py]
    exact lit_ok (C28 _ _) LE.e LE.cel litS_ev litS_chk H
  · obtain ⟨s, H⟩ := hs
    rw [← litE_py]
    exact lit_ok (C28 _ _) LE.e LE.cel litE_ev litE_chk H
end

section
variable {prog : Program} {w : World} {p : Program} {loose : List Str} {mean : ExcName → Option Value} {mg mb : Str → Option Value} {env : Env} {s₁ : Shared} {h₁ base : Heap} {outer : List Env}
theorem law_fok (KX : (hd.heap_39 w.params).In s₁.heap) (T : Top p loose mean mg mb s₁.heap) (K : Below callerA base outer s₁.heap) (eL : env.locals = s₁.heap.objs.size) (eF : env.frame = some s₁.heap.objs.size) (O : EOk env) (m : Str → Option Value) (keep : List (Addr × Obj)) :
    FOk (hd.heap_39 w.params) p loose mean mg mb ⟨s₁.heap, env.locals, m, keep, s₁⟩ (callerA.deeper env) 40 := by
  refine ⟨⟨callerA, base, outer, env, K, ?_, ?_, O.k⟩, KX, T, rfl, rfl, ?_, ?_⟩
  · show callerA.frames.map (env :: ·) = _
    rw [K.stack]; rfl
  · rw [eF, ← eL]
  · show 1 + claimMargin + 1 + 40 < recursionLimit
    decide +kernel
  · show 4 + 3 + 8 * 40 + 100 < cLine
    decide +kernel
theorem law_main {m : Str → Option Value} {o1 o2 : Obj} {ov1 ov2 : Option Value} {a : Addr} {vs : List Value} {ns : List Int} {tk : Nat} {Q : Flow → Shared → Prop} {E : Value → Shared → Prop}
    (KX : (hd.heap_39 w.params).In s₁.heap) (T : Top p loose mean mg mb s₁.heap) (K : Below callerA base outer s₁.heap) (LE : LawEnv env (s₁.heap.objs.size + 1) (s₁.heap.objs.size + 1 + 1)) (eL : env.locals = s₁.heap.objs.size) (eF : env.frame = some s₁.heap.objs.size)
    (kScript : env.kindOf "script" = some .local) (kTurn : env.kindOf "turn" = some .local) (kCode : env.kindOf "code" = some .local) (gCode : env.kindOf "Code" = some .globalImplicit) (gList : env.kindOf "list_code" = some .globalImplicit)
    (F : Fr s₁.heap s₁.heap.objs.size h₁ m) (N : News s₁.heap s₁.heap.objs.size h₁ [(s₁.heap.objs.size + 1 + 1, o2), (s₁.heap.objs.size + 1, o1)]) (h1 : o1.data = .cell ov1) (h2 : o2.data = .cell ov2)
    (hm : m "script" = some (.ref a)) (hl : s₁.heap.IsList a vs.toArray) (hI : IntsAre vs ns) (hlen : ¬ ((63 : Int) < (ns.length : Int)))
    (k : ∀ h t m', Fr s₁.heap s₁.heap.objs.size h m' → Q (.ret (.bool true)) { s₁ with heap := h, toks := t }) :
    wpAny (model prog w) (callerA.deeper env) (execs lawBody env) Q E { s₁ with heap := h₁, toks := tk } := by
  have C := law_fok (p := p) (loose := loose) (mean := mean) (mg := mg) (mb := mb) KX T K eL eF LE.e
  have C30 : ∀ m kp, FOk (hd.heap_39 w.params) p loose mean mg mb ⟨s₁.heap, env.locals, m, kp, s₁⟩ (callerA.deeper env) 30 := fun m kp => ⟨(C m kp).below, (C m kp).kin, (C m kp).top, (C m kp).handled, (C m kp).guards, by have := (C m kp).depth; omega, by have := (C m kp).units; omega⟩
  have hl2 : vs.length ≤ 1000 := by have := IntsAre.length hI; omega
  have H : Hp ⟨s₁.heap, env.locals, m, [(s₁.heap.objs.size + 1 + 1, o2), (s₁.heap.objs.size + 1, o1)], s₁⟩ [] { s₁ with heap := h₁, toks := tk } := by
    refine ⟨?_, ?_, ?_, h₁, tk, rfl⟩
    · show Fr s₁.heap env.locals h₁ m
      rw [eL]; exact F
    · show News s₁.heap env.locals h₁ _
      rw [eL]; exact N
    · show ([s₁.heap.objs.size + 1 + 1, s₁.heap.objs.size + 1] : List Nat).Nodup
      simp
  refine wpAny_mono (Q := fun f s' => ∃ h t m', Fr s₁.heap s₁.heap.objs.size h m' ∧ f = .ret (.bool true) ∧ s' = { s₁ with heap := h, toks := t }) (E := No) ?_ (fun f s' ⟨h, t, m', q1, q2, q3⟩ => by rw [q2, q3]; exact k h t m' q1) (fun _ _ h => False.elim h)
  unfold lawBody
  refine start_ok LE kScript kTurn C30 H hm hl hI hl2 h1 h2 (fun sd oa ra sl oS oL vs' ns' q1 q2 q3 q4 => law_turn LE q1 q2 q3 q4) (fun s' m' sd oa ra sl oS oL fz oN od oO oR vso vsr nn H' hO hR hmO hmR hnn hrows => ?_)
  refine lawEnd_ok LE kCode gCode gList C H' ?_ ?_ hO hR hmO hmR hrows hnn fun s'' m'' fz'' H'' => ?_
  · simp [ld]
  · simp [ld]
  · obtain ⟨h, t, e⟩ := H''.sh
    refine ⟨h, t, m'', ?_, rfl, e⟩
    have q := H''.fr
    rw [e] at q
    rw [← eL]
    exact q
end
end RegLaw

open PySem PySem.Calls PySem.W PyProof.Rows RegLaw
theorem PySem.Challenge.cw_no0233_01_holds : PySem.Challenge.rw_no0233_01.Holds := by
  w_on
  refine holds_law said_all fun said => ?_
  refine holds_open (q := qv) (loose := lsV) (Xt := xtV) (XP := XL qv []) (Yf := Hook.obs hkV) (Ya := Hook.val hkV) (YP := Hook.says hkV) (N := 2906) left_all (Hook.of hkV) (Hook.keeps hkV) (fun s e => xl_of s (Bool.and_eq_true_iff.mp e).1) XL.keeps (by rfl) (by rfl) (by rfl) (fun s e => recFacts_of (Bool.and_eq_true_iff.mp e).2) (by rfl) said (by decide +kernel) ⟨rfl, rfl, rfl, rfl, rfl, by decide +kernel⟩ ?hw9 ?hc9
  case hw9 => w_witness2
  intro w s₀ s₁ mg mb G Y fa o pm cd doc dV kV ho hd hcd hD hmg hg args vals as hpre hlay hrd hwl hlo
  have KX := kIn_of Y
  refine Ground.open G ?_
  intro T B D TE TW
  obtain ⟨_, _, he, B0⟩ := based_of_top T rfl hmg ho hd
  have he' : cd = _ := he
  subst he'
  clear he hmg
  wrow_args hpre hlay hrd hwl hlo
  refine enter_call ?_
  w_top on
  refine codeAny_mono ?_ (fun _ _ g => GoodW.toG g)
  have K0 := below_caller (Top.heap T)
  w_call any ho hd hcd hD T F
  refine RegLaw.cast_execs (b := RegLaw.lawBody) ?_ ?_
  · kernel_rfl
  rename Fr _ _ _ _ => FF
  rename News _ _ _ _ => NN
  rename Heap.IsList _ _ _ => LL
  rename IntsAre _ _ => II
  rename Below _ _ _ _ => KK
  rename Top _ _ _ _ _ _ => TT
  rename Frag.In _ _ => KX
  rename ¬ _ => CC
  refine RegLaw.law_main KX TT KK ?le ?el ?ef ?ks ?kt ?kc ?gc ?gl FF NN (by assumption) (by assumption) ?hm LL II ?cc ?kend
  case cc => first | exact CC | exact mod_cast CC | (intro h; apply CC; first | exact h | exact_mod_cast h | simpa using h)
  case el => rfl
  case ef => rfl
  case ks => rfl
  case kt => rfl
  case kc => rfl
  case gc => rfl
  case gl => rfl
  case hm => rfl
  case le => refine ⟨⟨rfl, rfl, rfl⟩, fun y hy => cellsFrom_some _ _ _ (.inl hy), rfl, rfl, rfl, rfl, rfl, rfl, rfl, rfl, rfl, rfl, rfl, rfl, rfl, rfl, rfl, rfl, rfl, rfl, ?_, ?_, ?_⟩ <;> kernel_rfl
  case kend =>
    rename _ = #[] => hg
    intro h t m2 F2
    refine goodW_bool (s' := { s₁ with heap := h, toks := t }) F2 hg ?hn ?hp
    case hn => intro cls; rfl
    case hp => wrow_post
