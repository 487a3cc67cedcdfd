import PyProof.Rows.All
import Wide.All
import OpenK.AllK
import Wide.FinOn
import PySem.Challenge.RW_nn0123_01
set_option Elab.async false
namespace Mine
open PySem PySem.W PyProof.Rows
set_option maxRecDepth 100000
set_option maxHeartbeats 0

noncomputable abbrev pg : Program := PySem.Challenge.rw_nn0123_01.row.toRowW.1
noncomputable def keepAt (l : List Nat) (b : List Stmt) : List Stmt := l.filterMap fun i => b[i]?
noncomputable def view : Program := { pg with main := { pg.main with body := keepAt [0, 2, 3, 5, 6, 7, 9, 10, 11, 12, 13, 14, 15, 16, 17, 18, 19, 21, 22, 23, 24, 25, 26, 27, 28, 30, 31, 32, 33, 34, 35, 36, 37, 38, 39, 40] pg.main.body } }
noncomputable abbrev looseN : List Str := [Str.ofString "PaperError", Str.ofString "told_objects"]

noncomputable def o43 : Obj := { cls := Value.type "tuple", data := Data.seq #[] }
noncomputable def o44 : Obj := { cls := Value.none, data := Data.fields #[] }
noncomputable def o45 : Obj := { cls := Value.type "code", data := Data.fields #[Value.str (Str.ofString "<module>") 182, Value.str (Str.ofString "<module>") 183,
          Value.str (Str.ofString "/claim/cut.py") 184, Value.int 1 0, Value.int 0 0, Value.int 0 0, Value.int 0 0, Value.int 0 0, Value.ref 11, Value.bool false,
          Value.int 181 0, Value.ref 12, Value.none, Value.none, Value.none, Value.none, Value.int 185 0, Value.int 1 0, Value.str (Str.ofString "/claim/cut.py") 186] }
noncomputable def o46 : Obj := { cls := Value.type "frame", slots := #[some (Value.ref 13), some (Value.ref 3), some (Value.ref 3), none, some (Value.str (Str.ofString "__main__") 164), none, some (Value.ref 0)] }
noncomputable def heapA (P : Params) : Heap := ⟨#[boot_o_0 P, boot_o_1 P, boot_o_2 P, boot_o_3 P, boot_o_4 P, boot_o_5 P, boot_o_6 P, boot_o_7 P, boot_o_8 P, boot_o_9 P, boot_o_10 P, o43, o44, o45, o46], {}⟩
noncomputable def treeA (P : Params) : BT :=
  .node (boot_o_0 P)
    (.node (boot_o_1 P) (.node (boot_o_3 P) (.node (boot_o_7 P) .nil .nil) (.node o43 .nil .nil)) (.node (boot_o_5 P) (.node (boot_o_9 P) .nil .nil) (.node o45 .nil .nil)))
    (.node (boot_o_2 P) (.node (boot_o_4 P) (.node (boot_o_8 P) .nil .nil) (.node o44 .nil .nil)) (.node (boot_o_6 P) (.node (boot_o_10 P) .nil .nil) (.node o46 .nil .nil)))
noncomputable abbrev envM : Env := { scope := pg.main.scope, locals := mainNs, globals := mainNs, cells := [], code := Value.ref 13, frame := some 14 }
noncomputable abbrev codeM : Code := Code.body (behindTheImports pg) envM
noncomputable abbrev p0 : Pos := ⟨0, 0, 0, 0⟩
noncomputable def stA (w : World) (os : OsState) : SharedT := ⟨treeA w.params, 15, {}, #[], {}, 187, os⟩
theorem preW : ∀ w : World, (fun os => Fast.tw15667345088766844465 Fast.tw14364793385576792824 pg w 11 (some (Value.ref 6)) 12 ⟨boot_heap w.params, #[], boot_drawn, boot_toks, os⟩ (topStub pg)) =
    fun os => some (⟨heapA w.params, #[], {}, 187, os⟩, ⟨Fast.tw11892475500146522536 Fast.tw14364793385576792824 codeM, codeM, p0, [topFrame p0]⟩) := by
  intro w
  kernel_rfl
theorem blockW : ∀ w : World, (fun os => Fast.tw14374325043358763698 Fast.tw14364793385576792824 pg w 11 (some (Value.ref 6)) 1 1 ⟨heapA w.params, #[], {}, 187, os⟩ (blockOf (behindTheImports pg) envM codeM p0 [topFrame p0])) =
    fun os => some (Flow.next, (stA w os).abs, codeM, p0) := by
  intro w
  kernel_rfl
theorem sizeW : ∀ w : World, ((boot_heap w.params).isNs mainGlobals && (#[] : Array GenState).size == 0, (boot_heap w.params).objs.size, (boot_heap w.params).nsMap mainGlobals "__annotations__") = (true, 11, some (Value.ref 6)) := by
  intro w
  kernel_rfl
theorem openW : opening pg = plainProg pg.main.scope.names := by kernel_rfl
theorem fenceW (s : Shared) : fenceModules? pg s = some s := by kernel_rfl
theorem finW (w : World) (s : Shared) (c : Code) (pos : Pos) : topRun treeTable pg w 11 (some (Value.ref 6)) 2 s ⟨doneF Flow.next, c, pos, [topFrame p0]⟩ = some s := by
  rfl

noncomputable def hvS (s : String) (t : Nat) : Value := .str (Str.ofString s) t
noncomputable def hEn (P : Params) (k : String) (t : Nat) (v : Value) : DictEntry := ⟨PyData.keyHash P (Str.ofString k), .str (Str.ofString k) t, v⟩
noncomputable def hTu (l : List Value) : Obj := ⟨.type "tuple", none, .seq ⟨l⟩ 0, ⟨[]⟩⟩
noncomputable def hFl (l : List Value) : Obj := ⟨.none, none, .fields ⟨l⟩, ⟨[]⟩⟩
noncomputable def hCo (l : List Value) : Obj := ⟨.type "code", none, .fields ⟨l⟩, ⟨[]⟩⟩
noncomputable def hA1 (i : Nat) : Stmt := (pg.main.body.drop i).headD (.Pass default)
noncomputable def hA2 (i j : Nat) : Stmt := match hA1 i with | .ClassDef _ _ _ b .. => (b.drop j).headD (.Pass default) | s => s
noncomputable def hFd (s : Stmt) (q : String) (g : Addr) (c : List (Str × Addr)) (d k o m : Value) (a : Option Addr) (e t : Value) (b : Addr) : FuncData := match s with
  | .FunctionDef n ar bo _ _ _ sc .. => ⟨n, Str.ofString q, ar, .stmts bo, sc, g, c, d, k, o, m, a, e, t, b⟩
  | _ => default
noncomputable def hFu (s : Stmt) (q : String) (g : Addr) (c : List (Str × Addr)) (d k o m : Value) (a : Option Addr) (e t : Value) (b : Addr) : Obj := ⟨.type "function", none, .func (hFd s q g c d k o m a e t b), ⟨[]⟩⟩
noncomputable def hFo (s : Stmt) (q : String) : Obj := ⟨.none, none, .func (hFd s q 0 [] .none .none .none .none none .none .none 0), ⟨[]⟩⟩
noncomputable def hObjs (P : Params) : List Obj := [
  boot_o_0 P,
  boot_o_1 P,
  ⟨.none, none, (.dict ⟨[hEn P "type.__subclasses__.Exception.0" 232 (.int 46 0), hEn P "type.__subclasses__.Exception.n" 233 (.int 1 0)]⟩ 2), ⟨[]⟩⟩,
  ⟨(.type "dict"), none, (.dict ⟨[hEn P "__name__" 165 (hvS "law_nn0123_01" 720), hEn P "__doc__" 166 .none, hEn P "__package__" 167 .none, hEn P "__loader__" 168 (.builtin "__main__.__loader__#opaque"), hEn P "__spec__" 169 .none, hEn P "__annotations__" 170 (.ref 6), hEn P "__builtins__" 171 (.ref 4), hEn P "__file__" 173 (hvS "/claim/cut.py" 172), hEn P "__cached__" 174 .none, hEn P "_wall" 193 (.ref 21), hEn P "PaperError" 235 (.ref 46), hEn P "CrossFault" 251 (.ref 59), hEn P "Decimal" 368 (.ref 155), hEn P "sign_text" 375 (.ref 166), hEn P "decimal_of" 382 (.ref 173), hEn P "MOST_HOPS" 386 (.int 30 385), hEn P "Name" 415 (.ref 190), hEn P "String" 446 (.ref 212), hEn P "Stream" 477 (.ref 233), hEn P "Reference" 515 (.ref 261), hEn P "kind_of" 522 (.ref 272), hEn P "told_plain" 530 (.ref 279), hEn P "told" 536 (.ref 284), hEn P "told_objects" 537 (.ref 284), hEn P "Lookup" 589 (.ref 316), hEn P "Shelf" 651 (.ref 370), hEn P "MOST_WIDTH" 655 (.int 8 654), hEn P "OWN_KEYS" 662 (.ref 373), hEn P "is_count" 669 (.ref 380), hEn P "counts_in" 682 (.ref 387), hEn P "widths_in" 691 (.ref 394), hEn P "numbers_in" 701 (.ref 401), hEn P "trailer_of" 710 (.ref 408), hEn P "is_cross_stream" 719 (.ref 415), hEn P "_law_pen" 727 (.ref 420), hEn P "_law_draw" 736 (.ref 427), hEn P "_law_pick" 744 (.ref 434), hEn P "_law_part" 751 (.ref 441), hEn P "_law_array" 757 (.ref 446), hEn P "_law_shelf" 766 (.ref 453), hEn P "_law_fetched" 775 (.ref 460), hEn P "_law_counts" 781 (.ref 465), hEn P "_law_is_count" 788 (.ref 472), hEn P "_law_heard" 797 (.ref 479), hEn P "law" 803 (.ref 484)]⟩ 45), ⟨[]⟩⟩,
  boot_o_4 P,
  boot_o_5 P,
  boot_o_6 P,
  boot_o_7 P,
  boot_o_8 P,
  boot_o_9 P,
  boot_o_10 P,
  hTu [],
  hFl [(.int 1 0), (.int 0 0), (.ref 20), (.int 5 0), (.int 0 0), (.ref 27), (.int 14 0), (.int 0 0), (.ref 55), (.int 17 0), (.int 0 0), (.ref 67), (.int 63 0), (.int 0 0), (.ref 165), (.int 65 0), (.int 0 0), (.ref 172), (.int 73 0), (.int 0 0), (.ref 179), (.int 77 0), (.int 0 0), (.ref 200), (.int 82 0), (.int 0 0), (.ref 222), (.int 87 0), (.int 0 0), (.ref 243), (.int 95 0), (.int 0 0), (.ref 271), (.int 117 0), (.int 0 0), (.ref 278), (.int 131 0), (.int 0 0), (.ref 283), (.int 141 0), (.int 0 0), (.ref 290), (.int 160 0), (.int 0 0), (.ref 326), (.int 183 0), (.int 0 0), (.ref 379), (.int 185 0), (.int 0 0), (.ref 386), (.int 198 0), (.int 0 0), (.ref 393), (.int 205 0), (.int 0 0), (.ref 400), (.int 215 0), (.int 0 0), (.ref 407), (.int 221 0), (.int 0 0), (.ref 414), (.int 227 0), (.int 0 0), (.ref 419), (.int 229 0), (.int 0 0), (.ref 426), (.int 236 0), (.int 0 0), (.ref 433), (.int 238 0), (.int 0 0), (.ref 440), (.int 240 0), (.int 0 0), (.ref 445), (.int 247 0), (.int 0 0), (.ref 452), (.int 252 0), (.int 0 0), (.ref 459), (.int 258 0), (.int 0 0), (.ref 464), (.int 264 0), (.int 0 0), (.ref 471), (.int 266 0), (.int 0 0), (.ref 478), (.int 271 0), (.int 0 0), (.ref 483)],
  hCo [(hvS "<module>" 182), (hvS "<module>" 183), (hvS "/claim/cut.py" 184), (.int 1 0), (.int 0 0), (.int 0 0), (.int 0 0), (.int 0 0), (.ref 11), (.bool false), (.int 181 0), (.ref 12), .none, .none, .none, .none, (.int 185 0), (.int 1 0), (hvS "/claim/cut.py" 186)],
  ⟨(.type "frame"), none, .plain, ⟨[(some (.ref 13)), (some (.ref 3)), (some (.ref 3)), none, (some (hvS "__main__" 164)), none, (some (.ref 0))]⟩⟩,
  hTu [],
  hFl [],
  hTu [(hvS "k" 190)],
  hTu [],
  hFo (hA1 0) "_wall",
  hCo [(hvS "_wall" 187), (hvS "_wall" 188), (hvS "/claim/cut.py" 189), (.int 1 0), (.int 1 0), (.int 0 0), (.int 0 0), (.int 3 0), (.ref 15), (.bool true), (.int 181 0), (.ref 16), .none, (.ref 17), (.ref 18), (.ref 19), (.int 191 0), (.int 1 0), (hvS "/claim/cut.py" 192)],
  hFu (hA1 0) "_wall" 3 [] .none .none .none (hvS "__main__" 164) none (.ref 20) .none 0,
  hTu [(.type "Exception")],
  ⟨(.type "builtin_function_or_method"), none, (.fields ⟨[(.builtin "type.__prepare__"), (.type "type")]⟩), ⟨[]⟩⟩,
  ⟨(.type "dict"), none, (.dict ⟨[hEn P "__module__" 203 (hvS "paperhold.errors" 194), hEn P "__qualname__" 205 (hvS "PaperError" 204), hEn P "__firstlineno__" 207 (.int 5 206), hEn P "__init__" 218 (.ref 36), hEn P "told" 225 (.ref 43), hEn P "__static_attributes__" 228 (.ref 44)]⟩ 6), ⟨[]⟩⟩,
  hTu [],
  hFl [(.int 7 0), (.int 4 0), (.ref 35), (.int 12 0), (.int 4 0), (.ref 42)],
  hCo [(hvS "PaperError" 198), (hvS "PaperError" 199), (hvS "/claim/cut.py" 200), (.int 5 0), (.int 0 0), (.int 0 0), (.int 0 0), (.int 0 0), (.ref 25), (.bool false), (.int 181 0), (.ref 26), .none, .none, .none, .none, (.int 201 0), (.int 5 0), (hvS "/claim/cut.py" 202)],
  ⟨(.type "frame"), none, .plain, ⟨[(some (.ref 27)), (some (.ref 3)), (some (.ref 24)), none, (some (hvS "paperhold.errors" 194)), none, (some (.ref 0))]⟩⟩,
  hTu [(.int (-1) 209)],
  hTu [],
  hFl [],
  hTu [(hvS "self" 213), (hvS "what" 214), (hvS "at" 215)],
  hTu [],
  hFo (hA2 2 0) "PaperError.__init__",
  hCo [(hvS "__init__" 210), (hvS "PaperError.__init__" 211), (hvS "/claim/cut.py" 212), (.int 7 0), (.int 3 0), (.int 0 0), (.int 0 0), (.int 3 0), (.ref 30), (.bool true), (.int 181 0), (.ref 31), .none, (.ref 32), (.ref 33), (.ref 34), (.int 216 0), (.int 7 0), (hvS "/claim/cut.py" 217)],
  hFu (hA2 2 0) "PaperError.__init__" 3 [] (.ref 29) .none .none (hvS "paperhold.errors" 194) none (.ref 35) .none 0,
  hTu [],
  hFl [],
  hTu [(hvS "self" 222)],
  hTu [],
  hFo (hA2 2 1) "PaperError.told",
  hCo [(hvS "told" 219), (hvS "PaperError.told" 220), (hvS "/claim/cut.py" 221), (.int 12 0), (.int 1 0), (.int 0 0), (.int 0 0), (.int 3 0), (.ref 37), (.bool true), (.int 181 0), (.ref 38), .none, (.ref 39), (.ref 40), (.ref 41), (.int 223 0), (.int 12 0), (hvS "/claim/cut.py" 224)],
  hFu (hA2 2 1) "PaperError.told" 3 [] .none .none .none (hvS "paperhold.errors" 194) none (.ref 42) .none 0,
  hTu [(hvS "at" 226), (hvS "what" 227)],
  ⟨(.type "dict"), none, (.dict ⟨[hEn P "__module__" 203 (hvS "paperhold.errors" 194), hEn P "__firstlineno__" 207 (.int 5 206), hEn P "__init__" 218 (.ref 36), hEn P "told" 225 (.ref 43), hEn P "__static_attributes__" 228 (.ref 44), hEn P "__weakref__" 230 (.ref 47), hEn P "__doc__" 231 .none]⟩ 3), ⟨[]⟩⟩,
  ⟨(.type "type"), none, (.cls ⟨(.ofString "PaperError"), [(.type "Exception")], [(.ref 46), (.type "Exception"), (.type "BaseException"), (.type "object")], 45, (.ofString "PaperError"), true, [], [(.ref 59)], false, none, false⟩), ⟨[(some (.ref 22)), none, (some (hvS "PaperError" 196)), (some (hvS "PaperError" 204)), (some (.builtin "Exception.__new__")), (some (.bool true))]⟩⟩,
  ⟨(.type "getset_descriptor"), none, (.fields ⟨[(hvS "__weakref__" 229), (.ref 46), (.builtin "ExceptionGroup.__weakref__"), .none]⟩), ⟨[]⟩⟩,
  ⟨(.type "super"), none, (.fields ⟨[(.ref 46), (.ref 46), (.ref 46)]⟩), ⟨[]⟩⟩,
  ⟨(.type "builtin_function_or_method"), none, (.fields ⟨[(.builtin "object.__init_subclass__"), (.ref 46)]⟩), ⟨[]⟩⟩,
  hTu [(.ref 46)],
  ⟨(.type "builtin_function_or_method"), none, (.fields ⟨[(.builtin "type.__prepare__"), (.type "type")]⟩), ⟨[]⟩⟩,
  ⟨(.type "dict"), none, (.dict ⟨[hEn P "__module__" 243 (hvS "paperhold.errors" 194), hEn P "__qualname__" 245 (hvS "CrossFault" 244), hEn P "__firstlineno__" 247 (.int 14 246), hEn P "__static_attributes__" 248 (.ref 57)]⟩ 4), ⟨[]⟩⟩,
  hTu [],
  hFl [],
  hCo [(hvS "CrossFault" 238), (hvS "CrossFault" 239), (hvS "/claim/cut.py" 240), (.int 14 0), (.int 0 0), (.int 0 0), (.int 0 0), (.int 0 0), (.ref 53), (.bool false), (.int 181 0), (.ref 54), .none, .none, .none, .none, (.int 241 0), (.int 14 0), (hvS "/claim/cut.py" 242)],
  ⟨(.type "frame"), none, .plain, ⟨[(some (.ref 55)), (some (.ref 3)), (some (.ref 52)), none, (some (hvS "paperhold.errors" 194)), none, (some (.ref 0))]⟩⟩,
  hTu [],
  ⟨(.type "dict"), none, (.dict ⟨[hEn P "__module__" 243 (hvS "paperhold.errors" 194), hEn P "__firstlineno__" 247 (.int 14 246), hEn P "__static_attributes__" 248 (.ref 57), hEn P "__doc__" 249 .none]⟩ 2), ⟨[]⟩⟩,
  ⟨(.type "type"), none, (.cls ⟨(.ofString "CrossFault"), [(.ref 46)], [(.ref 59), (.ref 46), (.type "Exception"), (.type "BaseException"), (.type "object")], 58, (.ofString "CrossFault"), true, [], [], false, none, false⟩), ⟨[(some (.ref 50)), none, (some (hvS "CrossFault" 236)), (some (hvS "CrossFault" 244)), (some (.builtin "Exception.__new__")), (some (.bool true))]⟩⟩,
  ⟨(.type "super"), none, (.fields ⟨[(.ref 59), (.ref 59), (.ref 59)]⟩), ⟨[]⟩⟩,
  ⟨(.type "builtin_function_or_method"), none, (.fields ⟨[(.builtin "object.__init_subclass__"), (.ref 59)]⟩), ⟨[]⟩⟩,
  hTu [],
  ⟨(.type "builtin_function_or_method"), none, (.fields ⟨[(.builtin "type.__prepare__"), (.type "type")]⟩), ⟨[]⟩⟩,
  ⟨(.type "dict"), none, (.dict ⟨[hEn P "__module__" 261 (hvS "paperhold.decimals" 252), hEn P "__qualname__" 263 (hvS "Decimal" 262), hEn P "__firstlineno__" 265 (.int 17 264), hEn P "__init__" 274 (.ref 75), hEn P "plus" 282 (.ref 82), hEn P "minus" 290 (.ref 89), hEn P "times" 299 (.ref 96), hEn P "negated" 306 (.ref 103), hEn P "compared" 314 (.ref 110), hEn P "is_whole" 321 (.ref 117), hEn P "floor" 328 (.ref 124), hEn P "rounded" 336 (.ref 131), hEn P "told" 343 (.ref 138), hEn P "text" 351 (.ref 145), hEn P "least_text" 358 (.ref 152), hEn P "__static_attributes__" 361 (.ref 153)]⟩ 16), ⟨[]⟩⟩,
  hTu [],
  hFl [(.int 19 0), (.int 4 0), (.ref 74), (.int 26 0), (.int 4 0), (.ref 81), (.int 29 0), (.int 4 0), (.ref 88), (.int 32 0), (.int 4 0), (.ref 95), (.int 36 0), (.int 4 0), (.ref 102), (.int 39 0), (.int 4 0), (.ref 109), (.int 42 0), (.int 4 0), (.ref 116), (.int 45 0), (.int 4 0), (.ref 123), (.int 48 0), (.int 4 0), (.ref 130), (.int 51 0), (.int 4 0), (.ref 137), (.int 54 0), (.int 4 0), (.ref 144), (.int 61 0), (.int 4 0), (.ref 151)],
  hCo [(hvS "Decimal" 256), (hvS "Decimal" 257), (hvS "/claim/cut.py" 258), (.int 17 0), (.int 0 0), (.int 0 0), (.int 0 0), (.int 0 0), (.ref 65), (.bool false), (.int 181 0), (.ref 66), .none, .none, .none, .none, (.int 259 0), (.int 17 0), (hvS "/claim/cut.py" 260)],
  ⟨(.type "frame"), none, .plain, ⟨[(some (.ref 67)), (some (.ref 3)), (some (.ref 64)), none, (some (hvS "paperhold.decimals" 252)), none, (some (.ref 0))]⟩⟩,
  hTu [],
  hFl [],
  hTu [(hvS "self" 269), (hvS "top" 270), (hvS "places" 271)],
  hTu [],
  hFo (hA2 5 0) "Decimal.__init__",
  hCo [(hvS "__init__" 266), (hvS "Decimal.__init__" 267), (hvS "/claim/cut.py" 268), (.int 19 0), (.int 3 0), (.int 0 0), (.int 0 0), (.int 3 0), (.ref 69), (.bool true), (.int 181 0), (.ref 70), .none, (.ref 71), (.ref 72), (.ref 73), (.int 272 0), (.int 19 0), (hvS "/claim/cut.py" 273)],
  hFu (hA2 5 0) "Decimal.__init__" 3 [] .none .none .none (hvS "paperhold.decimals" 252) none (.ref 74) .none 0,
  hTu [],
  hFl [],
  hTu [(hvS "self" 278), (hvS "other" 279)],
  hTu [],
  hFo (hA2 5 1) "Decimal.plus",
  hCo [(hvS "plus" 275), (hvS "Decimal.plus" 276), (hvS "/claim/cut.py" 277), (.int 26 0), (.int 2 0), (.int 0 0), (.int 0 0), (.int 3 0), (.ref 76), (.bool true), (.int 181 0), (.ref 77), .none, (.ref 78), (.ref 79), (.ref 80), (.int 280 0), (.int 26 0), (hvS "/claim/cut.py" 281)],
  hFu (hA2 5 1) "Decimal.plus" 3 [] .none .none .none (hvS "paperhold.decimals" 252) none (.ref 81) .none 0,
  hTu [],
  hFl [],
  hTu [(hvS "self" 286), (hvS "other" 287)],
  hTu [],
  hFo (hA2 5 2) "Decimal.minus",
  hCo [(hvS "minus" 283), (hvS "Decimal.minus" 284), (hvS "/claim/cut.py" 285), (.int 29 0), (.int 2 0), (.int 0 0), (.int 0 0), (.int 3 0), (.ref 83), (.bool true), (.int 181 0), (.ref 84), .none, (.ref 85), (.ref 86), (.ref 87), (.int 288 0), (.int 29 0), (hvS "/claim/cut.py" 289)],
  hFu (hA2 5 2) "Decimal.minus" 3 [] .none .none .none (hvS "paperhold.decimals" 252) none (.ref 88) .none 0,
  hTu [],
  hFl [],
  hTu [(hvS "self" 294), (hvS "other" 295), (hvS "factor" 296)],
  hTu [],
  hFo (hA2 5 3) "Decimal.times",
  hCo [(hvS "times" 291), (hvS "Decimal.times" 292), (hvS "/claim/cut.py" 293), (.int 32 0), (.int 2 0), (.int 0 0), (.int 0 0), (.int 3 0), (.ref 90), (.bool true), (.int 181 0), (.ref 91), .none, (.ref 92), (.ref 93), (.ref 94), (.int 297 0), (.int 32 0), (hvS "/claim/cut.py" 298)],
  hFu (hA2 5 3) "Decimal.times" 3 [] .none .none .none (hvS "paperhold.decimals" 252) none (.ref 95) .none 0,
  hTu [],
  hFl [],
  hTu [(hvS "self" 303)],
  hTu [],
  hFo (hA2 5 4) "Decimal.negated",
  hCo [(hvS "negated" 300), (hvS "Decimal.negated" 301), (hvS "/claim/cut.py" 302), (.int 36 0), (.int 1 0), (.int 0 0), (.int 0 0), (.int 3 0), (.ref 97), (.bool true), (.int 181 0), (.ref 98), .none, (.ref 99), (.ref 100), (.ref 101), (.int 304 0), (.int 36 0), (hvS "/claim/cut.py" 305)],
  hFu (hA2 5 4) "Decimal.negated" 3 [] .none .none .none (hvS "paperhold.decimals" 252) none (.ref 102) .none 0,
  hTu [],
  hFl [],
  hTu [(hvS "self" 310), (hvS "other" 311)],
  hTu [],
  hFo (hA2 5 5) "Decimal.compared",
  hCo [(hvS "compared" 307), (hvS "Decimal.compared" 308), (hvS "/claim/cut.py" 309), (.int 39 0), (.int 2 0), (.int 0 0), (.int 0 0), (.int 3 0), (.ref 104), (.bool true), (.int 181 0), (.ref 105), .none, (.ref 106), (.ref 107), (.ref 108), (.int 312 0), (.int 39 0), (hvS "/claim/cut.py" 313)],
  hFu (hA2 5 5) "Decimal.compared" 3 [] .none .none .none (hvS "paperhold.decimals" 252) none (.ref 109) .none 0,
  hTu [],
  hFl [],
  hTu [(hvS "self" 318)],
  hTu [],
  hFo (hA2 5 6) "Decimal.is_whole",
  hCo [(hvS "is_whole" 315), (hvS "Decimal.is_whole" 316), (hvS "/claim/cut.py" 317), (.int 42 0), (.int 1 0), (.int 0 0), (.int 0 0), (.int 3 0), (.ref 111), (.bool true), (.int 181 0), (.ref 112), .none, (.ref 113), (.ref 114), (.ref 115), (.int 319 0), (.int 42 0), (hvS "/claim/cut.py" 320)],
  hFu (hA2 5 6) "Decimal.is_whole" 3 [] .none .none .none (hvS "paperhold.decimals" 252) none (.ref 116) .none 0,
  hTu [],
  hFl [],
  hTu [(hvS "self" 325)],
  hTu [],
  hFo (hA2 5 7) "Decimal.floor",
  hCo [(hvS "floor" 322), (hvS "Decimal.floor" 323), (hvS "/claim/cut.py" 324), (.int 45 0), (.int 1 0), (.int 0 0), (.int 0 0), (.int 3 0), (.ref 118), (.bool true), (.int 181 0), (.ref 119), .none, (.ref 120), (.ref 121), (.ref 122), (.int 326 0), (.int 45 0), (hvS "/claim/cut.py" 327)],
  hFu (hA2 5 7) "Decimal.floor" 3 [] .none .none .none (hvS "paperhold.decimals" 252) none (.ref 123) .none 0,
  hTu [],
  hFl [],
  hTu [(hvS "self" 332), (hvS "places" 333)],
  hTu [],
  hFo (hA2 5 8) "Decimal.rounded",
  hCo [(hvS "rounded" 329), (hvS "Decimal.rounded" 330), (hvS "/claim/cut.py" 331), (.int 48 0), (.int 2 0), (.int 0 0), (.int 0 0), (.int 3 0), (.ref 125), (.bool true), (.int 181 0), (.ref 126), .none, (.ref 127), (.ref 128), (.ref 129), (.int 334 0), (.int 48 0), (hvS "/claim/cut.py" 335)],
  hFu (hA2 5 8) "Decimal.rounded" 3 [] .none .none .none (hvS "paperhold.decimals" 252) none (.ref 130) .none 0,
  hTu [],
  hFl [],
  hTu [(hvS "self" 340)],
  hTu [],
  hFo (hA2 5 9) "Decimal.told",
  hCo [(hvS "told" 337), (hvS "Decimal.told" 338), (hvS "/claim/cut.py" 339), (.int 51 0), (.int 1 0), (.int 0 0), (.int 0 0), (.int 3 0), (.ref 132), (.bool true), (.int 181 0), (.ref 133), .none, (.ref 134), (.ref 135), (.ref 136), (.int 341 0), (.int 51 0), (hvS "/claim/cut.py" 342)],
  hFu (hA2 5 9) "Decimal.told" 3 [] .none .none .none (hvS "paperhold.decimals" 252) none (.ref 137) .none 0,
  hTu [],
  hFl [],
  hTu [(hvS "self" 347), (hvS "numerals" 348)],
  hTu [],
  hFo (hA2 5 10) "Decimal.text",
  hCo [(hvS "text" 344), (hvS "Decimal.text" 345), (hvS "/claim/cut.py" 346), (.int 54 0), (.int 1 0), (.int 0 0), (.int 0 0), (.int 3 0), (.ref 139), (.bool true), (.int 181 0), (.ref 140), .none, (.ref 141), (.ref 142), (.ref 143), (.int 349 0), (.int 54 0), (hvS "/claim/cut.py" 350)],
  hFu (hA2 5 10) "Decimal.text" 3 [] .none .none .none (hvS "paperhold.decimals" 252) none (.ref 144) .none 0,
  hTu [],
  hFl [],
  hTu [(hvS "self" 355)],
  hTu [],
  hFo (hA2 5 11) "Decimal.least_text",
  hCo [(hvS "least_text" 352), (hvS "Decimal.least_text" 353), (hvS "/claim/cut.py" 354), (.int 61 0), (.int 1 0), (.int 0 0), (.int 0 0), (.int 3 0), (.ref 146), (.bool true), (.int 181 0), (.ref 147), .none, (.ref 148), (.ref 149), (.ref 150), (.int 356 0), (.int 61 0), (hvS "/claim/cut.py" 357)],
  hFu (hA2 5 11) "Decimal.least_text" 3 [] .none .none .none (hvS "paperhold.decimals" 252) none (.ref 151) .none 0,
  hTu [(hvS "places" 359), (hvS "top" 360)],
  ⟨(.type "dict"), none, (.dict ⟨[hEn P "__module__" 261 (hvS "paperhold.decimals" 252), hEn P "__firstlineno__" 265 (.int 17 264), hEn P "__init__" 274 (.ref 75), hEn P "plus" 282 (.ref 82), hEn P "minus" 290 (.ref 89), hEn P "times" 299 (.ref 96), hEn P "negated" 306 (.ref 103), hEn P "compared" 314 (.ref 110), hEn P "is_whole" 321 (.ref 117), hEn P "floor" 328 (.ref 124), hEn P "rounded" 336 (.ref 131), hEn P "told" 343 (.ref 138), hEn P "text" 351 (.ref 145), hEn P "least_text" 358 (.ref 152), hEn P "__static_attributes__" 361 (.ref 153), hEn P "__dict__" 363 (.ref 156), hEn P "__weakref__" 365 (.ref 157), hEn P "__doc__" 366 .none]⟩ 4), ⟨[]⟩⟩,
  ⟨(.type "type"), none, (.cls ⟨(.ofString "Decimal"), [(.type "object")], [(.ref 155), (.type "object")], 154, (.ofString "Decimal"), true, [], [], false, none, false⟩), ⟨[none, none, (some (hvS "Decimal" 254)), (some (hvS "Decimal" 262)), (some (.builtin "object.__new__")), (some (.bool true))]⟩⟩,
  ⟨(.type "getset_descriptor"), none, (.fields ⟨[(hvS "__dict__" 362), (.ref 155), (.builtin "function.__dict__"), (.builtin "function.__dict__#set")]⟩), ⟨[]⟩⟩,
  ⟨(.type "getset_descriptor"), none, (.fields ⟨[(hvS "__weakref__" 364), (.ref 155), (.builtin "ExceptionGroup.__weakref__"), .none]⟩), ⟨[]⟩⟩,
  ⟨(.type "super"), none, (.fields ⟨[(.ref 155), (.ref 155), (.ref 155)]⟩), ⟨[]⟩⟩,
  ⟨(.type "builtin_function_or_method"), none, (.fields ⟨[(.builtin "object.__init_subclass__"), (.ref 155)]⟩), ⟨[]⟩⟩,
  hTu [],
  hFl [],
  hTu [(hvS "number" 372)],
  hTu [],
  hFo (hA1 6) "sign_text",
  hCo [(hvS "sign_text" 369), (hvS "sign_text" 370), (hvS "/claim/cut.py" 371), (.int 63 0), (.int 1 0), (.int 0 0), (.int 0 0), (.int 3 0), (.ref 160), (.bool true), (.int 181 0), (.ref 161), .none, (.ref 162), (.ref 163), (.ref 164), (.int 373 0), (.int 63 0), (hvS "/claim/cut.py" 374)],
  hFu (hA1 6) "sign_text" 3 [] .none .none .none (hvS "paperhold.decimals" 252) none (.ref 165) .none 0,
  hTu [],
  hFl [],
  hTu [(hvS "value" 379)],
  hTu [],
  hFo (hA1 7) "decimal_of",
  hCo [(hvS "decimal_of" 376), (hvS "decimal_of" 377), (hvS "/claim/cut.py" 378), (.int 65 0), (.int 1 0), (.int 0 0), (.int 0 0), (.int 3 0), (.ref 167), (.bool true), (.int 181 0), (.ref 168), .none, (.ref 169), (.ref 170), (.ref 171), (.int 380 0), (.int 65 0), (hvS "/claim/cut.py" 381)],
  hFu (hA1 7) "decimal_of" 3 [] .none .none .none (hvS "paperhold.decimals" 252) none (.ref 172) .none 0,
  hTu [],
  ⟨(.type "builtin_function_or_method"), none, (.fields ⟨[(.builtin "type.__prepare__"), (.type "type")]⟩), ⟨[]⟩⟩,
  ⟨(.type "dict"), none, (.dict ⟨[hEn P "__module__" 394 (hvS "paperhold.objects" 383), hEn P "__qualname__" 396 (hvS "Name" 395), hEn P "__firstlineno__" 398 (.int 73 397), hEn P "__init__" 406 (.ref 187), hEn P "__static_attributes__" 408 (.ref 188)]⟩ 5), ⟨[]⟩⟩,
  hTu [],
  hFl [(.int 75 0), (.int 4 0), (.ref 186)],
  hCo [(hvS "Name" 389), (hvS "Name" 390), (hvS "/claim/cut.py" 391), (.int 73 0), (.int 0 0), (.int 0 0), (.int 0 0), (.int 0 0), (.ref 177), (.bool false), (.int 181 0), (.ref 178), .none, .none, .none, .none, (.int 392 0), (.int 73 0), (hvS "/claim/cut.py" 393)],
  ⟨(.type "frame"), none, .plain, ⟨[(some (.ref 179)), (some (.ref 3)), (some (.ref 176)), none, (some (hvS "paperhold.objects" 383)), none, (some (.ref 0))]⟩⟩,
  hTu [],
  hFl [],
  hTu [(hvS "self" 402), (hvS "text" 403)],
  hTu [],
  hFo (hA2 10 0) "Name.__init__",
  hCo [(hvS "__init__" 399), (hvS "Name.__init__" 400), (hvS "/claim/cut.py" 401), (.int 75 0), (.int 2 0), (.int 0 0), (.int 0 0), (.int 3 0), (.ref 181), (.bool true), (.int 181 0), (.ref 182), .none, (.ref 183), (.ref 184), (.ref 185), (.int 404 0), (.int 75 0), (hvS "/claim/cut.py" 405)],
  hFu (hA2 10 0) "Name.__init__" 3 [] .none .none .none (hvS "paperhold.objects" 383) none (.ref 186) .none 0,
  hTu [(hvS "text" 407)],
  ⟨(.type "dict"), none, (.dict ⟨[hEn P "__module__" 394 (hvS "paperhold.objects" 383), hEn P "__firstlineno__" 398 (.int 73 397), hEn P "__init__" 406 (.ref 187), hEn P "__static_attributes__" 408 (.ref 188), hEn P "__dict__" 410 (.ref 191), hEn P "__weakref__" 412 (.ref 192), hEn P "__doc__" 413 .none]⟩ 4), ⟨[]⟩⟩,
  ⟨(.type "type"), none, (.cls ⟨(.ofString "Name"), [(.type "object")], [(.ref 190), (.type "object")], 189, (.ofString "Name"), true, [], [], false, none, false⟩), ⟨[none, none, (some (hvS "Name" 387)), (some (hvS "Name" 395)), (some (.builtin "object.__new__")), (some (.bool true))]⟩⟩,
  ⟨(.type "getset_descriptor"), none, (.fields ⟨[(hvS "__dict__" 409), (.ref 190), (.builtin "function.__dict__"), (.builtin "function.__dict__#set")]⟩), ⟨[]⟩⟩,
  ⟨(.type "getset_descriptor"), none, (.fields ⟨[(hvS "__weakref__" 411), (.ref 190), (.builtin "ExceptionGroup.__weakref__"), .none]⟩), ⟨[]⟩⟩,
  ⟨(.type "super"), none, (.fields ⟨[(.ref 190), (.ref 190), (.ref 190)]⟩), ⟨[]⟩⟩,
  ⟨(.type "builtin_function_or_method"), none, (.fields ⟨[(.builtin "object.__init_subclass__"), (.ref 190)]⟩), ⟨[]⟩⟩,
  hTu [],
  ⟨(.type "builtin_function_or_method"), none, (.fields ⟨[(.builtin "type.__prepare__"), (.type "type")]⟩), ⟨[]⟩⟩,
  ⟨(.type "dict"), none, (.dict ⟨[hEn P "__module__" 423 (hvS "paperhold.objects" 383), hEn P "__qualname__" 425 (hvS "String" 424), hEn P "__firstlineno__" 427 (.int 77 426), hEn P "__init__" 436 (.ref 209), hEn P "__static_attributes__" 439 (.ref 210)]⟩ 5), ⟨[]⟩⟩,
  hTu [],
  hFl [(.int 79 0), (.int 4 0), (.ref 208)],
  hCo [(hvS "String" 418), (hvS "String" 419), (hvS "/claim/cut.py" 420), (.int 77 0), (.int 0 0), (.int 0 0), (.int 0 0), (.int 0 0), (.ref 198), (.bool false), (.int 181 0), (.ref 199), .none, .none, .none, .none, (.int 421 0), (.int 77 0), (hvS "/claim/cut.py" 422)],
  ⟨(.type "frame"), none, .plain, ⟨[(some (.ref 200)), (some (.ref 3)), (some (.ref 197)), none, (some (hvS "paperhold.objects" 383)), none, (some (.ref 0))]⟩⟩,
  hTu [(.bool false)],
  hTu [],
  hFl [],
  hTu [(hvS "self" 431), (hvS "octets" 432), (hvS "is_hex" 433)],
  hTu [],
  hFo (hA2 11 0) "String.__init__",
  hCo [(hvS "__init__" 428), (hvS "String.__init__" 429), (hvS "/claim/cut.py" 430), (.int 79 0), (.int 3 0), (.int 0 0), (.int 0 0), (.int 3 0), (.ref 203), (.bool true), (.int 181 0), (.ref 204), .none, (.ref 205), (.ref 206), (.ref 207), (.int 434 0), (.int 79 0), (hvS "/claim/cut.py" 435)],
  hFu (hA2 11 0) "String.__init__" 3 [] (.ref 202) .none .none (hvS "paperhold.objects" 383) none (.ref 208) .none 0,
  hTu [(hvS "is_hex" 437), (hvS "octets" 438)],
  ⟨(.type "dict"), none, (.dict ⟨[hEn P "__module__" 423 (hvS "paperhold.objects" 383), hEn P "__firstlineno__" 427 (.int 77 426), hEn P "__init__" 436 (.ref 209), hEn P "__static_attributes__" 439 (.ref 210), hEn P "__dict__" 441 (.ref 213), hEn P "__weakref__" 443 (.ref 214), hEn P "__doc__" 444 .none]⟩ 4), ⟨[]⟩⟩,
  ⟨(.type "type"), none, (.cls ⟨(.ofString "String"), [(.type "object")], [(.ref 212), (.type "object")], 211, (.ofString "String"), true, [], [], false, none, false⟩), ⟨[none, none, (some (hvS "String" 416)), (some (hvS "String" 424)), (some (.builtin "object.__new__")), (some (.bool true))]⟩⟩,
  ⟨(.type "getset_descriptor"), none, (.fields ⟨[(hvS "__dict__" 440), (.ref 212), (.builtin "function.__dict__"), (.builtin "function.__dict__#set")]⟩), ⟨[]⟩⟩,
  ⟨(.type "getset_descriptor"), none, (.fields ⟨[(hvS "__weakref__" 442), (.ref 212), (.builtin "ExceptionGroup.__weakref__"), .none]⟩), ⟨[]⟩⟩,
  ⟨(.type "super"), none, (.fields ⟨[(.ref 212), (.ref 212), (.ref 212)]⟩), ⟨[]⟩⟩,
  ⟨(.type "builtin_function_or_method"), none, (.fields ⟨[(.builtin "object.__init_subclass__"), (.ref 212)]⟩), ⟨[]⟩⟩,
  hTu [],
  ⟨(.type "builtin_function_or_method"), none, (.fields ⟨[(.builtin "type.__prepare__"), (.type "type")]⟩), ⟨[]⟩⟩,
  ⟨(.type "dict"), none, (.dict ⟨[hEn P "__module__" 454 (hvS "paperhold.objects" 383), hEn P "__qualname__" 456 (hvS "Stream" 455), hEn P "__firstlineno__" 458 (.int 82 457), hEn P "__init__" 467 (.ref 230), hEn P "__static_attributes__" 470 (.ref 231)]⟩ 5), ⟨[]⟩⟩,
  hTu [],
  hFl [(.int 84 0), (.int 4 0), (.ref 229)],
  hCo [(hvS "Stream" 449), (hvS "Stream" 450), (hvS "/claim/cut.py" 451), (.int 82 0), (.int 0 0), (.int 0 0), (.int 0 0), (.int 0 0), (.ref 220), (.bool false), (.int 181 0), (.ref 221), .none, .none, .none, .none, (.int 452 0), (.int 82 0), (hvS "/claim/cut.py" 453)],
  ⟨(.type "frame"), none, .plain, ⟨[(some (.ref 222)), (some (.ref 3)), (some (.ref 219)), none, (some (hvS "paperhold.objects" 383)), none, (some (.ref 0))]⟩⟩,
  hTu [],
  hFl [],
  hTu [(hvS "self" 462), (hvS "head" 463), (hvS "octets" 464)],
  hTu [],
  hFo (hA2 12 0) "Stream.__init__",
  hCo [(hvS "__init__" 459), (hvS "Stream.__init__" 460), (hvS "/claim/cut.py" 461), (.int 84 0), (.int 3 0), (.int 0 0), (.int 0 0), (.int 3 0), (.ref 224), (.bool true), (.int 181 0), (.ref 225), .none, (.ref 226), (.ref 227), (.ref 228), (.int 465 0), (.int 84 0), (hvS "/claim/cut.py" 466)],
  hFu (hA2 12 0) "Stream.__init__" 3 [] .none .none .none (hvS "paperhold.objects" 383) none (.ref 229) .none 0,
  hTu [(hvS "head" 468), (hvS "octets" 469)],
  ⟨(.type "dict"), none, (.dict ⟨[hEn P "__module__" 454 (hvS "paperhold.objects" 383), hEn P "__firstlineno__" 458 (.int 82 457), hEn P "__init__" 467 (.ref 230), hEn P "__static_attributes__" 470 (.ref 231), hEn P "__dict__" 472 (.ref 234), hEn P "__weakref__" 474 (.ref 235), hEn P "__doc__" 475 .none]⟩ 4), ⟨[]⟩⟩,
  ⟨(.type "type"), none, (.cls ⟨(.ofString "Stream"), [(.type "object")], [(.ref 233), (.type "object")], 232, (.ofString "Stream"), true, [], [], false, none, false⟩), ⟨[none, none, (some (hvS "Stream" 447)), (some (hvS "Stream" 455)), (some (.builtin "object.__new__")), (some (.bool true))]⟩⟩,
  ⟨(.type "getset_descriptor"), none, (.fields ⟨[(hvS "__dict__" 471), (.ref 233), (.builtin "function.__dict__"), (.builtin "function.__dict__#set")]⟩), ⟨[]⟩⟩,
  ⟨(.type "getset_descriptor"), none, (.fields ⟨[(hvS "__weakref__" 473), (.ref 233), (.builtin "ExceptionGroup.__weakref__"), .none]⟩), ⟨[]⟩⟩,
  ⟨(.type "super"), none, (.fields ⟨[(.ref 233), (.ref 233), (.ref 233)]⟩), ⟨[]⟩⟩,
  ⟨(.type "builtin_function_or_method"), none, (.fields ⟨[(.builtin "object.__init_subclass__"), (.ref 233)]⟩), ⟨[]⟩⟩,
  hTu [],
  ⟨(.type "builtin_function_or_method"), none, (.fields ⟨[(.builtin "type.__prepare__"), (.type "type")]⟩), ⟨[]⟩⟩,
  ⟨(.type "dict"), none, (.dict ⟨[hEn P "__module__" 485 (hvS "paperhold.objects" 383), hEn P "__qualname__" 487 (hvS "Reference" 486), hEn P "__firstlineno__" 489 (.int 87 488), hEn P "__init__" 498 (.ref 251), hEn P "pair" 505 (.ref 258), hEn P "__static_attributes__" 508 (.ref 259)]⟩ 6), ⟨[]⟩⟩,
  hTu [],
  hFl [(.int 89 0), (.int 4 0), (.ref 250), (.int 93 0), (.int 4 0), (.ref 257)],
  hCo [(hvS "Reference" 480), (hvS "Reference" 481), (hvS "/claim/cut.py" 482), (.int 87 0), (.int 0 0), (.int 0 0), (.int 0 0), (.int 0 0), (.ref 241), (.bool false), (.int 181 0), (.ref 242), .none, .none, .none, .none, (.int 483 0), (.int 87 0), (hvS "/claim/cut.py" 484)],
  ⟨(.type "frame"), none, .plain, ⟨[(some (.ref 243)), (some (.ref 3)), (some (.ref 240)), none, (some (hvS "paperhold.objects" 383)), none, (some (.ref 0))]⟩⟩,
  hTu [],
  hFl [],
  hTu [(hvS "self" 493), (hvS "number" 494), (hvS "generation" 495)],
  hTu [],
  hFo (hA2 13 0) "Reference.__init__",
  hCo [(hvS "__init__" 490), (hvS "Reference.__init__" 491), (hvS "/claim/cut.py" 492), (.int 89 0), (.int 3 0), (.int 0 0), (.int 0 0), (.int 3 0), (.ref 245), (.bool true), (.int 181 0), (.ref 246), .none, (.ref 247), (.ref 248), (.ref 249), (.int 496 0), (.int 89 0), (hvS "/claim/cut.py" 497)],
  hFu (hA2 13 0) "Reference.__init__" 3 [] .none .none .none (hvS "paperhold.objects" 383) none (.ref 250) .none 0,
  hTu [],
  hFl [],
  hTu [(hvS "self" 502)],
  hTu [],
  hFo (hA2 13 1) "Reference.pair",
  hCo [(hvS "pair" 499), (hvS "Reference.pair" 500), (hvS "/claim/cut.py" 501), (.int 93 0), (.int 1 0), (.int 0 0), (.int 0 0), (.int 3 0), (.ref 252), (.bool true), (.int 181 0), (.ref 253), .none, (.ref 254), (.ref 255), (.ref 256), (.int 503 0), (.int 93 0), (hvS "/claim/cut.py" 504)],
  hFu (hA2 13 1) "Reference.pair" 3 [] .none .none .none (hvS "paperhold.objects" 383) none (.ref 257) .none 0,
  hTu [(hvS "generation" 506), (hvS "number" 507)],
  ⟨(.type "dict"), none, (.dict ⟨[hEn P "__module__" 485 (hvS "paperhold.objects" 383), hEn P "__firstlineno__" 489 (.int 87 488), hEn P "__init__" 498 (.ref 251), hEn P "pair" 505 (.ref 258), hEn P "__static_attributes__" 508 (.ref 259), hEn P "__dict__" 510 (.ref 262), hEn P "__weakref__" 512 (.ref 263), hEn P "__doc__" 513 .none]⟩ 4), ⟨[]⟩⟩,
  ⟨(.type "type"), none, (.cls ⟨(.ofString "Reference"), [(.type "object")], [(.ref 261), (.type "object")], 260, (.ofString "Reference"), true, [], [], false, none, false⟩), ⟨[none, none, (some (hvS "Reference" 478)), (some (hvS "Reference" 486)), (some (.builtin "object.__new__")), (some (.bool true))]⟩⟩,
  ⟨(.type "getset_descriptor"), none, (.fields ⟨[(hvS "__dict__" 509), (.ref 261), (.builtin "function.__dict__"), (.builtin "function.__dict__#set")]⟩), ⟨[]⟩⟩,
  ⟨(.type "getset_descriptor"), none, (.fields ⟨[(hvS "__weakref__" 511), (.ref 261), (.builtin "ExceptionGroup.__weakref__"), .none]⟩), ⟨[]⟩⟩,
  ⟨(.type "super"), none, (.fields ⟨[(.ref 261), (.ref 261), (.ref 261)]⟩), ⟨[]⟩⟩,
  ⟨(.type "builtin_function_or_method"), none, (.fields ⟨[(.builtin "object.__init_subclass__"), (.ref 261)]⟩), ⟨[]⟩⟩,
  hTu [],
  hFl [],
  hTu [(hvS "value" 519)],
  hTu [],
  hFo (hA1 14) "kind_of",
  hCo [(hvS "kind_of" 516), (hvS "kind_of" 517), (hvS "/claim/cut.py" 518), (.int 95 0), (.int 1 0), (.int 0 0), (.int 0 0), (.int 3 0), (.ref 266), (.bool true), (.int 181 0), (.ref 267), .none, (.ref 268), (.ref 269), (.ref 270), (.int 520 0), (.int 95 0), (hvS "/claim/cut.py" 521)],
  hFu (hA1 14) "kind_of" 3 [] .none .none .none (hvS "paperhold.objects" 383) none (.ref 271) .none 0,
  hTu [],
  hFl [],
  hTu [(hvS "kind" 526), (hvS "value" 527)],
  hTu [],
  hFo (hA1 15) "told_plain",
  hCo [(hvS "told_plain" 523), (hvS "told_plain" 524), (hvS "/claim/cut.py" 525), (.int 117 0), (.int 2 0), (.int 0 0), (.int 0 0), (.int 3 0), (.ref 273), (.bool true), (.int 181 0), (.ref 274), .none, (.ref 275), (.ref 276), (.ref 277), (.int 528 0), (.int 117 0), (hvS "/claim/cut.py" 529)],
  hFu (hA1 15) "told_plain" 3 [] .none .none .none (hvS "paperhold.objects" 383) none (.ref 278) .none 0,
  hTu [],
  hFl [],
  hFo (hA1 16) "told",
  hCo [(hvS "told" 531), (hvS "told" 532), (hvS "/claim/cut.py" 533), (.int 131 0), (.int 1 0), (.int 0 0), (.int 0 0), (.int 3 0), (.ref 280), (.bool true), (.int 181 0), (.ref 281), .none, .none, .none, (.ref 282), (.int 534 0), (.int 131 0), (hvS "/claim/cut.py" 535)],
  hFu (hA1 16) "told" 3 [] .none .none .none (hvS "paperhold.objects" 383) none (.ref 283) .none 0,
  hTu [],
  ⟨(.type "builtin_function_or_method"), none, (.fields ⟨[(.builtin "type.__prepare__"), (.type "type")]⟩), ⟨[]⟩⟩,
  ⟨(.type "dict"), none, (.dict ⟨[hEn P "__module__" 545 (hvS "paperhold.objects" 383), hEn P "__qualname__" 547 (hvS "Lookup" 546), hEn P "__firstlineno__" 549 (.int 141 548), hEn P "__init__" 558 (.ref 299), hEn P "fetch" 570 (.ref 306), hEn P "get" 579 (.ref 313), hEn P "__static_attributes__" 582 (.ref 314)]⟩ 7), ⟨[]⟩⟩,
  hTu [],
  hFl [(.int 143 0), (.int 4 0), (.ref 298), (.int 147 0), (.int 4 0), (.ref 305), (.int 158 0), (.int 4 0), (.ref 312)],
  hCo [(hvS "Lookup" 540), (hvS "Lookup" 541), (hvS "/claim/cut.py" 542), (.int 141 0), (.int 0 0), (.int 0 0), (.int 0 0), (.int 0 0), (.ref 288), (.bool false), (.int 181 0), (.ref 289), .none, .none, .none, .none, (.int 543 0), (.int 141 0), (hvS "/claim/cut.py" 544)],
  ⟨(.type "frame"), none, .plain, ⟨[(some (.ref 290)), (some (.ref 3)), (some (.ref 287)), none, (some (hvS "paperhold.objects" 383)), none, (some (.ref 0))]⟩⟩,
  hTu [.none, .none],
  hTu [],
  hFl [],
  hTu [(hvS "self" 553), (hvS "table" 554), (hvS "trailer" 555)],
  hTu [],
  hFo (hA2 18 0) "Lookup.__init__",
  hCo [(hvS "__init__" 550), (hvS "Lookup.__init__" 551), (hvS "/claim/cut.py" 552), (.int 143 0), (.int 3 0), (.int 0 0), (.int 0 0), (.int 3 0), (.ref 293), (.bool true), (.int 181 0), (.ref 294), .none, (.ref 295), (.ref 296), (.ref 297), (.int 556 0), (.int 143 0), (hvS "/claim/cut.py" 557)],
  hFu (hA2 18 0) "Lookup.__init__" 3 [] (.ref 292) .none .none (hvS "paperhold.objects" 383) none (.ref 298) .none 0,
  hTu [],
  hFl [],
  hTu [(hvS "self" 562), (hvS "value" 563), (hvS "here" 564), (hvS "hop" 565), (hvS "generation" 566), (hvS "found" 567)],
  hTu [],
  hFo (hA2 18 1) "Lookup.fetch",
  hCo [(hvS "fetch" 559), (hvS "Lookup.fetch" 560), (hvS "/claim/cut.py" 561), (.int 147 0), (.int 2 0), (.int 0 0), (.int 0 0), (.int 3 0), (.ref 300), (.bool true), (.int 181 0), (.ref 301), .none, (.ref 302), (.ref 303), (.ref 304), (.int 568 0), (.int 147 0), (hvS "/claim/cut.py" 569)],
  hFu (hA2 18 1) "Lookup.fetch" 3 [] .none .none .none (hvS "paperhold.objects" 383) none (.ref 305) .none 0,
  hTu [],
  hFl [],
  hTu [(hvS "self" 574), (hvS "head" 575), (hvS "key" 576)],
  hTu [],
  hFo (hA2 18 2) "Lookup.get",
  hCo [(hvS "get" 571), (hvS "Lookup.get" 572), (hvS "/claim/cut.py" 573), (.int 158 0), (.int 3 0), (.int 0 0), (.int 0 0), (.int 3 0), (.ref 307), (.bool true), (.int 181 0), (.ref 308), .none, (.ref 309), (.ref 310), (.ref 311), (.int 577 0), (.int 158 0), (hvS "/claim/cut.py" 578)],
  hFu (hA2 18 2) "Lookup.get" 3 [] .none .none .none (hvS "paperhold.objects" 383) none (.ref 312) .none 0,
  hTu [(hvS "table" 580), (hvS "trailer" 581)],
  ⟨(.type "dict"), none, (.dict ⟨[hEn P "__module__" 545 (hvS "paperhold.objects" 383), hEn P "__firstlineno__" 549 (.int 141 548), hEn P "__init__" 558 (.ref 299), hEn P "fetch" 570 (.ref 306), hEn P "get" 579 (.ref 313), hEn P "__static_attributes__" 582 (.ref 314), hEn P "__dict__" 584 (.ref 317), hEn P "__weakref__" 586 (.ref 318), hEn P "__doc__" 587 .none]⟩ 4), ⟨[]⟩⟩,
  ⟨(.type "type"), none, (.cls ⟨(.ofString "Lookup"), [(.type "object")], [(.ref 316), (.type "object")], 315, (.ofString "Lookup"), true, [], [(.ref 370)], false, none, false⟩), ⟨[none, none, (some (hvS "Lookup" 538)), (some (hvS "Lookup" 546)), (some (.builtin "object.__new__")), (some (.bool true))]⟩⟩,
  ⟨(.type "getset_descriptor"), none, (.fields ⟨[(hvS "__dict__" 583), (.ref 316), (.builtin "function.__dict__"), (.builtin "function.__dict__#set")]⟩), ⟨[]⟩⟩,
  ⟨(.type "getset_descriptor"), none, (.fields ⟨[(hvS "__weakref__" 585), (.ref 316), (.builtin "ExceptionGroup.__weakref__"), .none]⟩), ⟨[]⟩⟩,
  ⟨(.type "super"), none, (.fields ⟨[(.ref 316), (.ref 316), (.ref 316)]⟩), ⟨[]⟩⟩,
  ⟨(.type "builtin_function_or_method"), none, (.fields ⟨[(.builtin "object.__init_subclass__"), (.ref 316)]⟩), ⟨[]⟩⟩,
  hTu [(.ref 316)],
  ⟨(.type "builtin_function_or_method"), none, (.fields ⟨[(.builtin "type.__prepare__"), (.type "type")]⟩), ⟨[]⟩⟩,
  ⟨(.type "dict"), none, (.dict ⟨[hEn P "__module__" 597 (hvS "paperhold.objects" 383), hEn P "__qualname__" 599 (hvS "Shelf" 598), hEn P "__firstlineno__" 601 (.int 160 600), hEn P "put" 611 (.ref 334), hEn P "add" 619 (.ref 341), hEn P "drop" 627 (.ref 348), hEn P "numbers" 634 (.ref 355), hEn P "root" 641 (.ref 362), hEn P "told" 647 (.ref 367), hEn P "__static_attributes__" 648 (.ref 368)]⟩ 10), ⟨[]⟩⟩,
  hTu [],
  hFl [(.int 162 0), (.int 4 0), (.ref 333), (.int 165 0), (.int 4 0), (.ref 340), (.int 168 0), (.int 4 0), (.ref 347), (.int 171 0), (.int 4 0), (.ref 354), (.int 174 0), (.int 4 0), (.ref 361), (.int 177 0), (.int 4 0), (.ref 366)],
  hCo [(hvS "Shelf" 592), (hvS "Shelf" 593), (hvS "/claim/cut.py" 594), (.int 160 0), (.int 0 0), (.int 0 0), (.int 0 0), (.int 0 0), (.ref 324), (.bool false), (.int 181 0), (.ref 325), .none, .none, .none, .none, (.int 595 0), (.int 160 0), (hvS "/claim/cut.py" 596)],
  ⟨(.type "frame"), none, .plain, ⟨[(some (.ref 326)), (some (.ref 3)), (some (.ref 323)), none, (some (hvS "paperhold.objects" 383)), none, (some (.ref 0))]⟩⟩,
  hTu [],
  hFl [],
  hTu [(hvS "self" 605), (hvS "number" 606), (hvS "generation" 607), (hvS "value" 608)],
  hTu [],
  hFo (hA2 19 0) "Shelf.put",
  hCo [(hvS "put" 602), (hvS "Shelf.put" 603), (hvS "/claim/cut.py" 604), (.int 162 0), (.int 4 0), (.int 0 0), (.int 0 0), (.int 3 0), (.ref 328), (.bool true), (.int 181 0), (.ref 329), .none, (.ref 330), (.ref 331), (.ref 332), (.int 609 0), (.int 162 0), (hvS "/claim/cut.py" 610)],
  hFu (hA2 19 0) "Shelf.put" 3 [] .none .none .none (hvS "paperhold.objects" 383) none (.ref 333) .none 0,
  hTu [],
  hFl [],
  hTu [(hvS "self" 615), (hvS "value" 616)],
  hTu [],
  hFo (hA2 19 1) "Shelf.add",
  hCo [(hvS "add" 612), (hvS "Shelf.add" 613), (hvS "/claim/cut.py" 614), (.int 165 0), (.int 2 0), (.int 0 0), (.int 0 0), (.int 3 0), (.ref 335), (.bool true), (.int 181 0), (.ref 336), .none, (.ref 337), (.ref 338), (.ref 339), (.int 617 0), (.int 165 0), (hvS "/claim/cut.py" 618)],
  hFu (hA2 19 1) "Shelf.add" 3 [] .none .none .none (hvS "paperhold.objects" 383) none (.ref 340) .none 0,
  hTu [],
  hFl [],
  hTu [(hvS "self" 623), (hvS "number" 624)],
  hTu [],
  hFo (hA2 19 2) "Shelf.drop",
  hCo [(hvS "drop" 620), (hvS "Shelf.drop" 621), (hvS "/claim/cut.py" 622), (.int 168 0), (.int 2 0), (.int 0 0), (.int 0 0), (.int 3 0), (.ref 342), (.bool true), (.int 181 0), (.ref 343), .none, (.ref 344), (.ref 345), (.ref 346), (.int 625 0), (.int 168 0), (hvS "/claim/cut.py" 626)],
  hFu (hA2 19 2) "Shelf.drop" 3 [] .none .none .none (hvS "paperhold.objects" 383) none (.ref 347) .none 0,
  hTu [],
  hFl [],
  hTu [(hvS "self" 631)],
  hTu [],
  hFo (hA2 19 3) "Shelf.numbers",
  hCo [(hvS "numbers" 628), (hvS "Shelf.numbers" 629), (hvS "/claim/cut.py" 630), (.int 171 0), (.int 1 0), (.int 0 0), (.int 0 0), (.int 3 0), (.ref 349), (.bool true), (.int 181 0), (.ref 350), .none, (.ref 351), (.ref 352), (.ref 353), (.int 632 0), (.int 171 0), (hvS "/claim/cut.py" 633)],
  hFu (hA2 19 3) "Shelf.numbers" 3 [] .none .none .none (hvS "paperhold.objects" 383) none (.ref 354) .none 0,
  hTu [],
  hFl [],
  hTu [(hvS "self" 638)],
  hTu [],
  hFo (hA2 19 4) "Shelf.root",
  hCo [(hvS "root" 635), (hvS "Shelf.root" 636), (hvS "/claim/cut.py" 637), (.int 174 0), (.int 1 0), (.int 0 0), (.int 0 0), (.int 3 0), (.ref 356), (.bool true), (.int 181 0), (.ref 357), .none, (.ref 358), (.ref 359), (.ref 360), (.int 639 0), (.int 174 0), (hvS "/claim/cut.py" 640)],
  hFu (hA2 19 4) "Shelf.root" 3 [] .none .none .none (hvS "paperhold.objects" 383) none (.ref 361) .none 0,
  hTu [],
  hFl [],
  hFo (hA2 19 5) "Shelf.told",
  hCo [(hvS "told" 642), (hvS "Shelf.told" 643), (hvS "/claim/cut.py" 644), (.int 177 0), (.int 1 0), (.int 0 0), (.int 0 0), (.int 3 0), (.ref 363), (.bool true), (.int 181 0), (.ref 364), .none, .none, .none, (.ref 365), (.int 645 0), (.int 177 0), (hvS "/claim/cut.py" 646)],
  hFu (hA2 19 5) "Shelf.told" 3 [] .none .none .none (hvS "paperhold.objects" 383) none (.ref 366) .none 0,
  hTu [],
  ⟨(.type "dict"), none, (.dict ⟨[hEn P "__module__" 597 (hvS "paperhold.objects" 383), hEn P "__firstlineno__" 601 (.int 160 600), hEn P "put" 611 (.ref 334), hEn P "add" 619 (.ref 341), hEn P "drop" 627 (.ref 348), hEn P "numbers" 634 (.ref 355), hEn P "root" 641 (.ref 362), hEn P "told" 647 (.ref 367), hEn P "__static_attributes__" 648 (.ref 368), hEn P "__doc__" 649 .none]⟩ 2), ⟨[]⟩⟩,
  ⟨(.type "type"), none, (.cls ⟨(.ofString "Shelf"), [(.ref 316)], [(.ref 370), (.ref 316), (.type "object")], 369, (.ofString "Shelf"), true, [], [], false, none, false⟩), ⟨[(some (.ref 321)), none, (some (hvS "Shelf" 590)), (some (hvS "Shelf" 598)), (some (.builtin "object.__new__")), (some (.bool true))]⟩⟩,
  ⟨(.type "super"), none, (.fields ⟨[(.ref 370), (.ref 370), (.ref 370)]⟩), ⟨[]⟩⟩,
  ⟨(.type "builtin_function_or_method"), none, (.fields ⟨[(.builtin "object.__init_subclass__"), (.ref 370)]⟩), ⟨[]⟩⟩,
  hTu [(hvS "Length" 656), (hvS "Filter" 657), (hvS "DecodeParms" 658), (hvS "W" 659), (hvS "Index" 660), (hvS "Type" 661)],
  hTu [],
  hFl [],
  hTu [(hvS "value" 666)],
  hTu [],
  hFo (hA1 23) "is_count",
  hCo [(hvS "is_count" 663), (hvS "is_count" 664), (hvS "/claim/cut.py" 665), (.int 183 0), (.int 1 0), (.int 0 0), (.int 0 0), (.int 3 0), (.ref 374), (.bool true), (.int 181 0), (.ref 375), .none, (.ref 376), (.ref 377), (.ref 378), (.int 667 0), (.int 183 0), (hvS "/claim/cut.py" 668)],
  hFu (hA1 23) "is_count" 3 [] .none .none .none (hvS "paperhold.crossstream" 652) none (.ref 379) .none 0,
  hTu [],
  hFl [],
  hTu [(hvS "shelf" 673), (hvS "head" 674), (hvS "key" 675), (hvS "array" 676), (hvS "found" 677), (hvS "part" 678), (hvS "value" 679)],
  hTu [],
  hFo (hA1 24) "counts_in",
  hCo [(hvS "counts_in" 670), (hvS "counts_in" 671), (hvS "/claim/cut.py" 672), (.int 185 0), (.int 3 0), (.int 0 0), (.int 0 0), (.int 3 0), (.ref 381), (.bool true), (.int 181 0), (.ref 382), .none, (.ref 383), (.ref 384), (.ref 385), (.int 680 0), (.int 185 0), (hvS "/claim/cut.py" 681)],
  hFu (hA1 24) "counts_in" 3 [] .none .none .none (hvS "paperhold.crossstream" 652) none (.ref 386) .none 0,
  hTu [],
  hFl [],
  hTu [(hvS "shelf" 686), (hvS "head" 687), (hvS "found" 688)],
  hTu [],
  hFo (hA1 25) "widths_in",
  hCo [(hvS "widths_in" 683), (hvS "widths_in" 684), (hvS "/claim/cut.py" 685), (.int 198 0), (.int 2 0), (.int 0 0), (.int 0 0), (.int 3 0), (.ref 388), (.bool true), (.int 181 0), (.ref 389), .none, (.ref 390), (.ref 391), (.ref 392), (.int 689 0), (.int 198 0), (hvS "/claim/cut.py" 690)],
  hFu (hA1 25) "widths_in" 3 [] .none .none .none (hvS "paperhold.crossstream" 652) none (.ref 393) .none 0,
  hTu [],
  hFl [],
  hTu [(hvS "shelf" 695), (hvS "head" 696), (hvS "runs" 697), (hvS "count" 698)],
  hTu [],
  hFo (hA1 26) "numbers_in",
  hCo [(hvS "numbers_in" 692), (hvS "numbers_in" 693), (hvS "/claim/cut.py" 694), (.int 205 0), (.int 2 0), (.int 0 0), (.int 0 0), (.int 3 0), (.ref 395), (.bool true), (.int 181 0), (.ref 396), .none, (.ref 397), (.ref 398), (.ref 399), (.int 699 0), (.int 205 0), (hvS "/claim/cut.py" 700)],
  hFu (hA1 26) "numbers_in" 3 [] .none .none .none (hvS "paperhold.crossstream" 652) none (.ref 400) .none 0,
  hTu [],
  hFl [],
  hTu [(hvS "head" 705), (hvS "found" 706), (hvS "key" 707)],
  hTu [],
  hFo (hA1 27) "trailer_of",
  hCo [(hvS "trailer_of" 702), (hvS "trailer_of" 703), (hvS "/claim/cut.py" 704), (.int 215 0), (.int 1 0), (.int 0 0), (.int 0 0), (.int 3 0), (.ref 402), (.bool true), (.int 181 0), (.ref 403), .none, (.ref 404), (.ref 405), (.ref 406), (.int 708 0), (.int 215 0), (hvS "/claim/cut.py" 709)],
  hFu (hA1 27) "trailer_of" 3 [] .none .none .none (hvS "paperhold.crossstream" 652) none (.ref 407) .none 0,
  hTu [],
  hFl [],
  hTu [(hvS "shelf" 714), (hvS "value" 715), (hvS "kind" 716)],
  hTu [],
  hFo (hA1 28) "is_cross_stream",
  hCo [(hvS "is_cross_stream" 711), (hvS "is_cross_stream" 712), (hvS "/claim/cut.py" 713), (.int 221 0), (.int 2 0), (.int 0 0), (.int 0 0), (.int 3 0), (.ref 409), (.bool true), (.int 181 0), (.ref 410), .none, (.ref 411), (.ref 412), (.ref 413), (.int 717 0), (.int 221 0), (hvS "/claim/cut.py" 718)],
  hFu (hA1 28) "is_cross_stream" 3 [] .none .none .none (hvS "paperhold.crossstream" 652) none (.ref 414) .none 0,
  hTu [],
  hFl [],
  hFo (hA1 30) "_law_pen",
  hCo [(hvS "_law_pen" 722), (hvS "_law_pen" 723), (hvS "/claim/cut.py" 724), (.int 227 0), (.int 1 0), (.int 0 0), (.int 0 0), (.int 3 0), (.ref 416), (.bool true), (.int 181 0), (.ref 417), .none, .none, .none, (.ref 418), (.int 725 0), (.int 227 0), (hvS "/claim/cut.py" 726)],
  hFu (hA1 30) "_law_pen" 3 [] .none .none .none (hvS "law_nn0123_01" 720) none (.ref 419) .none 0,
  hTu [],
  hFl [],
  hTu [(hvS "pen" 731), (hvS "many" 732), (hvS "digit" 733)],
  hTu [],
  hFo (hA1 31) "_law_draw",
  hCo [(hvS "_law_draw" 728), (hvS "_law_draw" 729), (hvS "/claim/cut.py" 730), (.int 229 0), (.int 2 0), (.int 0 0), (.int 0 0), (.int 3 0), (.ref 421), (.bool true), (.int 181 0), (.ref 422), .none, (.ref 423), (.ref 424), (.ref 425), (.int 734 0), (.int 229 0), (hvS "/claim/cut.py" 735)],
  hFu (hA1 31) "_law_draw" 3 [] .none .none .none (hvS "law_nn0123_01" 720) none (.ref 426) .none 0,
  hTu [],
  hFl [],
  hTu [(hvS "pen" 740), (hvS "some" 741)],
  hTu [],
  hFo (hA1 32) "_law_pick",
  hCo [(hvS "_law_pick" 737), (hvS "_law_pick" 738), (hvS "/claim/cut.py" 739), (.int 236 0), (.int 2 0), (.int 0 0), (.int 0 0), (.int 3 0), (.ref 428), (.bool true), (.int 181 0), (.ref 429), .none, (.ref 430), (.ref 431), (.ref 432), (.int 742 0), (.int 236 0), (hvS "/claim/cut.py" 743)],
  hFu (hA1 32) "_law_pick" 3 [] .none .none .none (hvS "law_nn0123_01" 720) none (.ref 433) .none 0,
  hTu [],
  hFl [],
  hTu [(hvS "pen" 748)],
  hTu [],
  hFo (hA1 33) "_law_part",
  hCo [(hvS "_law_part" 745), (hvS "_law_part" 746), (hvS "/claim/cut.py" 747), (.int 238 0), (.int 1 0), (.int 0 0), (.int 0 0), (.int 3 0), (.ref 435), (.bool true), (.int 181 0), (.ref 436), .none, (.ref 437), (.ref 438), (.ref 439), (.int 749 0), (.int 238 0), (hvS "/claim/cut.py" 750)],
  hFu (hA1 33) "_law_part" 3 [] .none .none .none (hvS "law_nn0123_01" 720) none (.ref 440) .none 0,
  hTu [],
  hFl [],
  hFo (hA1 34) "_law_array",
  hCo [(hvS "_law_array" 752), (hvS "_law_array" 753), (hvS "/claim/cut.py" 754), (.int 240 0), (.int 2 0), (.int 0 0), (.int 0 0), (.int 3 0), (.ref 442), (.bool true), (.int 181 0), (.ref 443), .none, .none, .none, (.ref 444), (.int 755 0), (.int 240 0), (hvS "/claim/cut.py" 756)],
  hFu (hA1 34) "_law_array" 3 [] .none .none .none (hvS "law_nn0123_01" 720) none (.ref 445) .none 0,
  hTu [],
  hFl [],
  hTu [(hvS "pen" 761), (hvS "table" 762), (hvS "number" 763)],
  hTu [],
  hFo (hA1 35) "_law_shelf",
  hCo [(hvS "_law_shelf" 758), (hvS "_law_shelf" 759), (hvS "/claim/cut.py" 760), (.int 247 0), (.int 1 0), (.int 0 0), (.int 0 0), (.int 3 0), (.ref 447), (.bool true), (.int 181 0), (.ref 448), .none, (.ref 449), (.ref 450), (.ref 451), (.int 764 0), (.int 247 0), (hvS "/claim/cut.py" 765)],
  hFu (hA1 35) "_law_shelf" 3 [] .none .none .none (hvS "law_nn0123_01" 720) none (.ref 452) .none 0,
  hTu [],
  hFl [],
  hTu [(hvS "table" 770), (hvS "value" 771), (hvS "turn" 772)],
  hTu [],
  hFo (hA1 36) "_law_fetched",
  hCo [(hvS "_law_fetched" 767), (hvS "_law_fetched" 768), (hvS "/claim/cut.py" 769), (.int 252 0), (.int 2 0), (.int 0 0), (.int 0 0), (.int 3 0), (.ref 454), (.bool true), (.int 181 0), (.ref 455), .none, (.ref 456), (.ref 457), (.ref 458), (.int 773 0), (.int 252 0), (hvS "/claim/cut.py" 774)],
  hFu (hA1 36) "_law_fetched" 3 [] .none .none .none (hvS "law_nn0123_01" 720) none (.ref 459) .none 0,
  hTu [],
  hFl [],
  hFo (hA1 37) "_law_counts",
  hCo [(hvS "_law_counts" 776), (hvS "_law_counts" 777), (hvS "/claim/cut.py" 778), (.int 258 0), (.int 2 0), (.int 0 0), (.int 0 0), (.int 3 0), (.ref 461), (.bool true), (.int 181 0), (.ref 462), .none, .none, .none, (.ref 463), (.int 779 0), (.int 258 0), (hvS "/claim/cut.py" 780)],
  hFu (hA1 37) "_law_counts" 3 [] .none .none .none (hvS "law_nn0123_01" 720) none (.ref 464) .none 0,
  hTu [],
  hFl [],
  hTu [(hvS "value" 785)],
  hTu [],
  hFo (hA1 38) "_law_is_count",
  hCo [(hvS "_law_is_count" 782), (hvS "_law_is_count" 783), (hvS "/claim/cut.py" 784), (.int 264 0), (.int 1 0), (.int 0 0), (.int 0 0), (.int 3 0), (.ref 466), (.bool true), (.int 181 0), (.ref 467), .none, (.ref 468), (.ref 469), (.ref 470), (.int 786 0), (.int 264 0), (hvS "/claim/cut.py" 787)],
  hFu (hA1 38) "_law_is_count" 3 [] .none .none .none (hvS "law_nn0123_01" 720) none (.ref 471) .none 0,
  hTu [],
  hFl [],
  hTu [(hvS "deed" 792), (hvS "shelf" 793), (hvS "head" 794)],
  hTu [],
  hFo (hA1 39) "_law_heard",
  hCo [(hvS "_law_heard" 789), (hvS "_law_heard" 790), (hvS "/claim/cut.py" 791), (.int 266 0), (.int 3 0), (.int 0 0), (.int 0 0), (.int 3 0), (.ref 473), (.bool true), (.int 181 0), (.ref 474), .none, (.ref 475), (.ref 476), (.ref 477), (.int 795 0), (.int 266 0), (hvS "/claim/cut.py" 796)],
  hFu (hA1 39) "_law_heard" 3 [] .none .none .none (hvS "law_nn0123_01" 720) none (.ref 478) .none 0,
  hTu [],
  hFl [],
  hFo (hA1 40) "law",
  hCo [(hvS "law" 798), (hvS "law" 799), (hvS "/claim/cut.py" 800), (.int 271 0), (.int 1 0), (.int 0 0), (.int 0 0), (.int 3 0), (.ref 480), (.bool true), (.int 181 0), (.ref 481), .none, .none, .none, (.ref 482), (.int 801 0), (.int 271 0), (hvS "/claim/cut.py" 802)],
  hFu (hA1 40) "law" 3 [] .none .none .none (hvS "law_nn0123_01" 720) none (.ref 483) .none 0]
noncomputable def hSpl (l : List Obj) : List Obj × List Obj := @List.rec Obj (fun _ => List Obj × List Obj) ([], []) (fun a _ ih => (a :: ih.2, ih.1)) l
noncomputable def hBr (n : Nat) : List Obj → BT := @Nat.rec (fun _ => List Obj → BT) (fun _ => .nil) (fun _ ih l => @List.rec Obj (fun _ => BT) .nil (fun o r _ => .node o (ih (hSpl r).1) (ih (hSpl r).2)) l) n
noncomputable def hL1 (P : Params) : List Obj := (((hObjs P).take 160).set 3 ⟨(.type "dict"), none, (.dict ⟨[hEn P "__name__" 165 (hvS "paperhold.decimals" 252), hEn P "__doc__" 166 .none, hEn P "__package__" 167 .none, hEn P "__loader__" 168 (.builtin "__main__.__loader__#opaque"), hEn P "__spec__" 169 .none, hEn P "__annotations__" 170 (.ref 6), hEn P "__builtins__" 171 (.ref 4), hEn P "__file__" 173 (hvS "/claim/cut.py" 172), hEn P "__cached__" 174 .none, hEn P "_wall" 193 (.ref 21), hEn P "PaperError" 235 (.ref 46), hEn P "CrossFault" 251 (.ref 59), hEn P "Decimal" 368 (.ref 155)]⟩ 13), ⟨[]⟩⟩).set 12 (hFl [(.int 1 0), (.int 0 0), (.ref 20), (.int 5 0), (.int 0 0), (.ref 27), (.int 14 0), (.int 0 0), (.ref 55), (.int 17 0), (.int 0 0), (.ref 67)])
noncomputable abbrev hP1 : Pos := ⟨17, 0, 62, 16⟩
noncomputable def hS1 (w : World) (os : OsState) : SharedT := ⟨hBr 10 (hL1 w.params), 160, {}, #[], {}, 369, os⟩
noncomputable abbrev hQ1 : List Stmt := (behindTheImports pg).take 6
noncomputable abbrev hR1 : List Stmt := (behindTheImports pg).drop 6
theorem hK1 : ∀ w : World, (fun os => Fast.tw10110043849684766642 Fast.tw14364793385576792824 pg w 11 (some (Value.ref 6)) 1 1110 (stA w os) (piecesOf hQ1 envM codeM p0 [topFrame p0])) =
    fun os => some (Flow.next, hS1 w os, codeM, hP1) := by
  intro w
  kernel_rfl
noncomputable def hL2 (P : Params) : List Obj := (((hObjs P).take 266).set 3 ⟨(.type "dict"), none, (.dict ⟨[hEn P "__name__" 165 (hvS "paperhold.objects" 383), hEn P "__doc__" 166 .none, hEn P "__package__" 167 .none, hEn P "__loader__" 168 (.builtin "__main__.__loader__#opaque"), hEn P "__spec__" 169 .none, hEn P "__annotations__" 170 (.ref 6), hEn P "__builtins__" 171 (.ref 4), hEn P "__file__" 173 (hvS "/claim/cut.py" 172), hEn P "__cached__" 174 .none, hEn P "_wall" 193 (.ref 21), hEn P "PaperError" 235 (.ref 46), hEn P "CrossFault" 251 (.ref 59), hEn P "Decimal" 368 (.ref 155), hEn P "sign_text" 375 (.ref 166), hEn P "decimal_of" 382 (.ref 173), hEn P "MOST_HOPS" 386 (.int 30 385), hEn P "Name" 415 (.ref 190), hEn P "String" 446 (.ref 212), hEn P "Stream" 477 (.ref 233), hEn P "Reference" 515 (.ref 261)]⟩ 20), ⟨[]⟩⟩).set 12 (hFl [(.int 1 0), (.int 0 0), (.ref 20), (.int 5 0), (.int 0 0), (.ref 27), (.int 14 0), (.int 0 0), (.ref 55), (.int 17 0), (.int 0 0), (.ref 67), (.int 63 0), (.int 0 0), (.ref 165), (.int 65 0), (.int 0 0), (.ref 172), (.int 73 0), (.int 0 0), (.ref 179), (.int 77 0), (.int 0 0), (.ref 200), (.int 82 0), (.int 0 0), (.ref 222), (.int 87 0), (.int 0 0), (.ref 243)])
noncomputable abbrev hP2 : Pos := ⟨87, 0, 94, 16⟩
noncomputable def hS2 (w : World) (os : OsState) : SharedT := ⟨hBr 10 (hL2 w.params), 266, {}, #[], {}, 516, os⟩
noncomputable abbrev hQ2 : List Stmt := (hR1).take 8
noncomputable abbrev hR2 : List Stmt := (hR1).drop 8
theorem hK2 : ∀ w : World, (fun os => Fast.tw10110043849684766642 Fast.tw14364793385576792824 pg w 11 (some (Value.ref 6)) 1 1012 (hS1 w os) (piecesOf hQ2 envM codeM hP1 [topFrame p0])) =
    fun os => some (Flow.next, hS2 w os, codeM, hP2) := by
  intro w
  kernel_rfl
noncomputable def hL3 (P : Params) : List Obj := (((hObjs P).take 373).set 3 ⟨(.type "dict"), none, (.dict ⟨[hEn P "__name__" 165 (hvS "paperhold.objects" 383), hEn P "__doc__" 166 .none, hEn P "__package__" 167 .none, hEn P "__loader__" 168 (.builtin "__main__.__loader__#opaque"), hEn P "__spec__" 169 .none, hEn P "__annotations__" 170 (.ref 6), hEn P "__builtins__" 171 (.ref 4), hEn P "__file__" 173 (hvS "/claim/cut.py" 172), hEn P "__cached__" 174 .none, hEn P "_wall" 193 (.ref 21), hEn P "PaperError" 235 (.ref 46), hEn P "CrossFault" 251 (.ref 59), hEn P "Decimal" 368 (.ref 155), hEn P "sign_text" 375 (.ref 166), hEn P "decimal_of" 382 (.ref 173), hEn P "MOST_HOPS" 386 (.int 30 385), hEn P "Name" 415 (.ref 190), hEn P "String" 446 (.ref 212), hEn P "Stream" 477 (.ref 233), hEn P "Reference" 515 (.ref 261), hEn P "kind_of" 522 (.ref 272), hEn P "told_plain" 530 (.ref 279), hEn P "told" 536 (.ref 284), hEn P "told_objects" 537 (.ref 284), hEn P "Lookup" 589 (.ref 316), hEn P "Shelf" 651 (.ref 370)]⟩ 26), ⟨[]⟩⟩).set 12 (hFl [(.int 1 0), (.int 0 0), (.ref 20), (.int 5 0), (.int 0 0), (.ref 27), (.int 14 0), (.int 0 0), (.ref 55), (.int 17 0), (.int 0 0), (.ref 67), (.int 63 0), (.int 0 0), (.ref 165), (.int 65 0), (.int 0 0), (.ref 172), (.int 73 0), (.int 0 0), (.ref 179), (.int 77 0), (.int 0 0), (.ref 200), (.int 82 0), (.int 0 0), (.ref 222), (.int 87 0), (.int 0 0), (.ref 243), (.int 95 0), (.int 0 0), (.ref 271), (.int 117 0), (.int 0 0), (.ref 278), (.int 131 0), (.int 0 0), (.ref 283), (.int 141 0), (.int 0 0), (.ref 290), (.int 160 0), (.int 0 0), (.ref 326)])
noncomputable abbrev hP3 : Pos := ⟨160, 0, 179, 49⟩
noncomputable def hS3 (w : World) (os : OsState) : SharedT := ⟨hBr 10 (hL3 w.params), 373, {}, #[], {}, 652, os⟩
noncomputable abbrev hQ3 : List Stmt := (hR2).take 6
noncomputable abbrev hR3 : List Stmt := (hR2).drop 6
theorem hK3 : ∀ w : World, (fun os => Fast.tw10110043849684766642 Fast.tw14364793385576792824 pg w 11 (some (Value.ref 6)) 1 799 (hS2 w os) (piecesOf hQ3 envM codeM hP2 [topFrame p0])) =
    fun os => some (Flow.next, hS3 w os, codeM, hP3) := by
  intro w
  kernel_rfl
noncomputable def hL4 (P : Params) : List Obj := hObjs P
noncomputable abbrev hP4 : Pos := ⟨271, 0, 302, 90⟩
noncomputable def hS4 (w : World) (os : OsState) : SharedT := ⟨hBr 10 (hL4 w.params), 485, {}, #[], {}, 804, os⟩
noncomputable abbrev hQ4 : List Stmt := (hR3).take 21
noncomputable abbrev hR4 : List Stmt := (hR3).drop 21
theorem hK4 : ∀ w : World, (fun os => Fast.tw10110043849684766642 Fast.tw14364793385576792824 pg w 11 (some (Value.ref 6)) 1 558 (hS3 w os) (piecesOf hQ4 envM codeM hP3 [topFrame p0])) =
    fun os => some (Flow.next, hS4 w os, codeM, hP4) := by
  intro w
  kernel_rfl
noncomputable abbrev XtA : Shared → Bool := fun s => xlAt view [] s && recOk (RowW.records PySem.Challenge.rw_nn0123_01.row.toRowW) s
noncomputable def hEnd (w : World) (os : OsState) : Shared := ⟨⟨⟨hObjs w.params⟩, {}⟩, #[], {}, 804, os⟩
theorem hAbs : ∀ w : World, (fun os => (hS4 w os).abs) = fun os => hEnd w os := by
  intro w
  kernel_rfl
theorem nineOf {A B C D E F G H I : Type} {a a' : A} {b b' : B} {c c' : C} {d d' : D} {e e' : E} {f f' : F} {g g' : G} {h h' : H} {i i' : I} (h1 : (a, b, c) = (a', b', c')) (h2 : (d, e, f, g, h, i) = (d', e', f', g', h', i')) :
    (a, b, c, d, e, f, g, h, i) = (a', b', c', d', e', f', g', h', i') := by cases h1; cases h2; rfl
theorem hSeen1 : ∀ w : World, (fun os => (seen ((recsOf view).map (·.name)) (ownsOf view) [] { (hEnd w os) with gens := #[] }, (hEnd w os).heap.bltView, ((hEnd w os).heap.keysOk (looseW view looseN) ((recsOf view).map (·.name)) ((litsOf view).map (·.1)) ((clssOf view (looseW view looseN)).map (·.name)) && (hEnd w os).heap.accountedOkI (importedModules pg.main.body) && (hEnd w os).heap.isNs mainGlobals && (hEnd w os).heap.isNs builtinsNs && tablesOk view (hEnd w os).heap && XtA (hEnd w os) && (if true then (hEnd w os).gens.size == 0 else !leftWithCleanup (hEnd w os).gens)))) = fun _ => (expectedOf view, bltViewBooted, true) := by
  intro w
  kernel_rfl
theorem hSeen2 : ∀ w : World, (fun os => (tabsOk view (hEnd w os), pinSeenD view (drecsOf view) (hEnd w os), plainSeenE view (looseW view looseN) (hEnd w os), plainSeenD view looseN (hEnd w os), wideSeen view (hEnd w os), clsSeenW view looseN (hEnd w os))) = fun _ => (true, pinGoodD (drecsOf view), plainGoodE view (looseW view looseN), plainGoodD view looseN, wideGood view, clsGoodW view looseN) := by
  intro w
  kernel_rfl
theorem hSeen (w : World) (os : OsState) : openSeen view looseN (importedModules pg.main.body) XtA true (hEnd w os) = openGood view looseN :=
  nineOf (congrFun (hSeen1 w) os) (congrFun (hSeen2 w) os)
theorem hStat : ∀ w : World, (fun os => (staticsOk (importedModules pg.main.body) (boot_heap w.params) (hEnd w os).heap && namesBound pg (hEnd w os).heap && gensDone (hEnd w os) && laidKept (boot_heap w.params) (hEnd w os).heap)) = fun _ => true := by
  intro w
  kernel_rfl
theorem hNil : hR4 = [] := by kernel_rfl

theorem leftA {α : Type} {Yf : Shared → α} {Ya : World → α} (h : ∀ w : World, (fun os => Yf (hEnd w os)) = fun _ => Ya w) : LeftO pg view looseN XtA Yf Ya 7004 := by
  refine LeftO.of_pieces (H₁ := fun P => ⟨⟨hObjs P⟩, {}⟩) (gs₁ := #[]) (d₁ := {}) (k₁ := 804) (M := 12 + (1 + (1110 + (1012 + (799 + (558 + 2)))))) (boot_open openW rfl fenceW) sizeW (fun w os => ?_) rfl fun w =>
    funext fun os => Prod.ext (congrFun (hStat w) os) (Prod.ext (hSeen w os) (congrFun (h w) os))
  have pre : topGo treeTable pg w 11 (some (Value.ref 6)) 12 ⟨boot_heap w.params, #[], boot_drawn, boot_toks, os⟩ (topStub pg) = some (⟨heapA w.params, #[], {}, 187, os⟩, ⟨denote treeTable codeM, codeM, p0, [topFrame p0]⟩) := by
    have := congrFun (preW w) os
    rw [← Fast.te15667345088766844465, ← Fast.te14364793385576792824, ← Fast.te11892475500146522536] at this
    exact this
  have block : segRun treeTable pg w 11 (some (Value.ref 6)) 1 1 ⟨heapA w.params, #[], {}, 187, os⟩ (blockOf (behindTheImports pg) envM codeM p0 [topFrame p0]) = some (Flow.next, (stA w os).abs, codeM, p0) := by
    have := congrFun (blockW w) os
    rw [← Fast.te14374325043358763698, ← Fast.te14364793385576792824] at this
    exact this
  have k4 : segRunT treeTable pg w 11 (some (Value.ref 6)) 1 558 (hS3 w os) (piecesOf hQ4 envM codeM hP3 [topFrame p0]) = some (Flow.next, hS4 w os, codeM, hP4) := by
    rw [Fast.te10110043849684766642, Fast.te14364793385576792824]; exact congrFun (hK4 w) os
  have a4 : topRun treeTable pg w 11 (some (Value.ref 6)) (558 + 2) (hS3 w os).abs (restOf (hR3) envM codeM hP3 [topFrame p0]) = some (hEnd w os) := by
    have := piece_app (rest := hR4) (segRun_of k4) (by rw [hNil]; exact piece_nil ((finW w (hS4 w os).abs codeM hP4).trans (congrArg some (congrFun (hAbs w) os))))
    rw [show hQ4 ++ hR4 = hR3 from List.take_append_drop _ _] at this
    exact this
  have k3 : segRunT treeTable pg w 11 (some (Value.ref 6)) 1 799 (hS2 w os) (piecesOf hQ3 envM codeM hP2 [topFrame p0]) = some (Flow.next, hS3 w os, codeM, hP3) := by
    rw [Fast.te10110043849684766642, Fast.te14364793385576792824]; exact congrFun (hK3 w) os
  have a3 : topRun treeTable pg w 11 (some (Value.ref 6)) (799 + (558 + 2)) (hS2 w os).abs (restOf (hR2) envM codeM hP2 [topFrame p0]) = some (hEnd w os) := by
    have := piece_app (rest := hR3) (segRun_of k3) a4
    rw [show hQ3 ++ hR3 = hR2 from List.take_append_drop _ _] at this
    exact this
  have k2 : segRunT treeTable pg w 11 (some (Value.ref 6)) 1 1012 (hS1 w os) (piecesOf hQ2 envM codeM hP1 [topFrame p0]) = some (Flow.next, hS2 w os, codeM, hP2) := by
    rw [Fast.te10110043849684766642, Fast.te14364793385576792824]; exact congrFun (hK2 w) os
  have a2 : topRun treeTable pg w 11 (some (Value.ref 6)) (1012 + (799 + (558 + 2))) (hS1 w os).abs (restOf (hR1) envM codeM hP1 [topFrame p0]) = some (hEnd w os) := by
    have := piece_app (rest := hR2) (segRun_of k2) a3
    rw [show hQ2 ++ hR2 = hR1 from List.take_append_drop _ _] at this
    exact this
  have k1 : segRunT treeTable pg w 11 (some (Value.ref 6)) 1 1110 (stA w os) (piecesOf hQ1 envM codeM p0 [topFrame p0]) = some (Flow.next, hS1 w os, codeM, hP1) := by
    rw [Fast.te10110043849684766642, Fast.te14364793385576792824]; exact congrFun (hK1 w) os
  have a1 : topRun treeTable pg w 11 (some (Value.ref 6)) (1110 + (1012 + (799 + (558 + 2)))) (stA w os).abs (restOf (behindTheImports pg) envM codeM p0 [topFrame p0]) = some (hEnd w os) := by
    have := piece_app (rest := hR1) (segRun_of k1) a2
    rw [show hQ1 ++ hR1 = behindTheImports pg from List.take_append_drop _ _] at this
    exact this
  exact go_top pre (piece_block block a1)
theorem said_two {a b : Bool} (h : a = true) (k : b = true) : (a && b) = true := by rw [h, k]; rfl
theorem said_all : PySem.Challenge.rw_nn0123_01.wellSaid = true := by
  unfold OpenLaw.wellSaid OpenRow.wellSaid OpenRow.partSaid looksOpen
  repeat' (with_reducible refine said_two ?_ ?_)
  all_goals (try rw [Fast.te8377067652309620493])
  all_goals (try rw [Fast.te8326940854005059898])
  all_goals (try rw [Fast.te17119622794617984870])
  all_goals decide +kernel
local macro_rules | `(tactic| o_law) => `(tactic| refine holds_law said_all fun said => ?_)
local macro_rules | `(tactic| o_head $H) => `(tactic| (
  refine holds_open (q := view) (loose := looseN) (Xt := XtA) (XP := XL view []) (Yf := Hook.obs $H) (Ya := Hook.val $H) (YP := Hook.says $H) (N := 7004) ?hl (Hook.of $H) (Hook.keeps $H) (fun s e => xl_of s (Bool.and_eq_true_iff.mp e).1) XL.keeps (by rfl) (by rfl) (by rfl) (fun s e => recFacts_of (Bool.and_eq_true_iff.mp e).2) (by rfl) (by first | assumption | decide +kernel) (by decide +kernel) ⟨rfl, rfl, rfl, rfl, rfl, by decide +kernel⟩ ?hw ?hc
  (case hl => exact leftA (by intro w; kernel_rfl))))
open_top hd for PySem.Challenge.rw_nn0123_01
theorem topOff : True := by w_top off; trivial

open PySem PySem.W PyProof.Rows PySem.Spec PySem.Calls
set_option maxRecDepth 100000
set_option maxHeartbeats 8000000

noncomputable def Hold (P : Prop) : Prop := P
theorem Hold.out {P : Prop} (h : Hold P) : P := h
theorem Hold.mk {P : Prop} (h : P) : Hold P := h
theorem holdAt {M : Model} {A : Around} {args : List Value} {Q E : Value → Shared → Prop} {s : Shared} (a : Addr) (h : Hold (wpAny M A (call (.ref a) args) Q E s)) : wpAny M A (call (.ref a) args) Q E s := h
noncomputable abbrev penO (q : Addr) (a b : Int) (ta tb : Tok) (n : Nat) : Obj := listOf [Value.ref q, Value.int a ta, Value.int b tb].toArray n

noncomputable def But (l : List Addr) (h h' : Heap) : Prop := ∀ b o, h.get? b = some o → b ∉ l → h'.get? b = some o
theorem But.trans {l : List Addr} {h h' h'' : Heap} (x : But l h h') (y : But l h' h'') : But l h h'' := fun b o e n => y b o (x b o e n) n
theorem But.refl {l : List Addr} {h : Heap} : But l h h := fun _ _ e _ => e
theorem But.mono {l l' : List Addr} {h h' : Heap} (x : But l h h') (s : ∀ a ∈ l, a ∈ l') : But l' h h' := fun b o e n => x b o e fun q => n (s b q)
theorem But.stays {h h' : Heap} (x : But [] h h') : h.StaysIn h' := fun b o e => x b o e (by simp)

section
variable {prog : Program} {w : World} {A A₀ : Around} {E : Value → Shared → Prop} {s : Shared} {K : Frag} {C L : Addr} {h₀ base : Heap} {m mg mb : Str → Option Value} {news : List (Addr × Obj)} {p : Program} {loose : List Str} {mean : ExcName → Option Value} {Q : Value → Shared → Prop}
theorem grounds {env : Env} {outer : List Env} {R : Result → Shared → Prop} (B : Below A₀ base outer h₀) (F : Fr h₀ L s.heap m) (X₀ : K.In h₀) (N : News h₀ L s.heap news) (T : Top p loose mean mg mb h₀)
    (hA : A.frames = some (env :: outer)) (hf : env.frame = some L) (hke : env.scope.kind = .function) :
    ∃ g, Fr h₀ L g m ∧ Below A base (env :: outer) g ∧ K.In g ∧ Top p loose mean mg mb g ∧ But (news.map (·.1)) s.heap g ∧ g.StaysIn s.heap ∧
      (∀ h₁ m₁, s.heap.StaysIn h₁ → h₁.Ns s.heap.objs.size m₁ → Fr g s.heap.objs.size h₁ m₁) ∧ (∀ h₁, s.heap.StaysIn h₁ → News g s.heap.objs.size h₁ news) ∧
      AllLt s.heap.objs.size news ∧ ∀ v s', LeaveK h₀ L m g R v s' → R (.ok (.ret v)) s' := by
  obtain ⟨FG, BG, st, lv⟩ := groundX (R := R) B F N hA hf hke
  have less : ∀ x ∈ news, x.1 < s.heap.objs.size := fun x hx => Heap.lt_size (N x hx).1
  refine ⟨_, FG, BG, X₀.keeps st, T.keeps st, fun b o e n => hideAll_get _ e n, fun b o => of_hideAll _, fun h₁ m₁ up ns => ⟨ns, fun b o e => up b o (of_hideAll _ e), ?_⟩, fun h₁ up x hx => ⟨up _ _ (N x hx).1, ?_, ?_⟩, allLt_of less, lv⟩
  · rw [hideAll_size]; exact Nat.le_refl _
  · exact Nat.ne_of_lt (less x hx)
  · exact hideAll_none _ (List.mem_map_of_mem hx)
theorem code_defH {env : Env} {outer : List Env} {R : Result → Shared → Prop} {name qual : Str} {params : Arguments} {body : List Stmt} {scope : Scope} {dV kV doc pm cdv ct oc : Value} {an od : Option Addr} {osl : Array (Option Value)} {f : Addr} {args : Args} {binds : List (Str × Value)}
    (B : Below A₀ base outer h₀) (F : Fr h₀ L s.heap m) (X₀ : K.In h₀) (N : News h₀ L s.heap news) (T : Top p loose mean mg mb h₀) (hA : A.frames = some (env :: outer)) (hf : env.frame = some L) (hke : env.scope.kind = .function)
    (ho : K.lookup f = some ⟨oc, od, .func (fnOf name qual params body scope dV kV doc pm an cdv ct), osl⟩) (hcd : codeIn K cdv qual = true) (hroom : A.depth < recursionLimit)
    (hbind : BindsTo s (fnOf name qual params body scope dV kV doc pm an cdv ct) args binds) (hloc : ∀ y ∈ binds, scope.names.lookup y.1 = some .local)
    (h : ∀ g L' h₁, Fr h₀ L g m → Fr g L' h₁ (fun y => binds.reverse.lookup y) → News g L' h₁ news → Below A base (env :: outer) g → K.In g → Top p loose mean mg mb g → But (news.map (·.1)) s.heap g → g.StaysIn s.heap → AllLt L' news → s.heap.objs.size ≤ L' →
      wpAny (model prog w) (A.deeper (envOf qual scope L' f cdv)) (execs body (envOf qual scope L' f cdv))
        (fun fl s' => LeaveK h₀ L m g R (match fl with | .ret v => v | _ => .none) s')
        (fun e s' => wpAny (model prog w) (A.deeper (envOf qual scope L' f cdv)) (leaving (envOf qual scope L' f cdv) e) (fun _ s'' => R (.error e) s'') (fun e' s'' => R (.error e') s'') s')
        { s with heap := h₁, toks := s.toks + binds.length })
    (hco : scope.isCoroutine = false) (hgen : scope.isGenerator = false) (hk : scope.kind = .function)
    (hcell : ∀ x ∈ scope.names, x.2 ≠ .cell) : codeAny (model prog w) A (.call (.ref f) args) R s := by
  obtain ⟨g, FG, BG, XG, TG, but, back, toFr, toNews, lt, lv⟩ := grounds (R := R) B F X₀ N T hA hf hke
  have X := X₀.keeps F.keep
  refine codeAny_call_def (binds := binds) hroom (X _ _ ho) rfl (T.nolimit.keeps F.keep) (codeRec_of X hcd) rfl hbind hcell hloc (fun h₁ ns up => ?_) hco hgen hk
  exact wpAny_mono (h g _ h₁ FG (toFr _ _ up ns) (toNews _ up) BG XG TG but back lt (Nat.le_refl _)) (fun _ _ => lv _ _) fun _ _ y => y
end

theorem news2 {h₀ h : Heap} {L : Addr} {l : List (Addr × Obj)} {a b : Addr × Obj} (N : News h₀ L h l) (ha : a ∈ l) (hb : b ∈ l) : News h₀ L h [a, b] := fun p hp => by
  rcases List.mem_cons.mp hp with rfl | hp
  · exact N _ ha
  · rw [List.mem_singleton.mp hp]; exact N _ hb
theorem But.ofFr {l : List Addr} {h g h' : Heap} {L : Addr} {m : Str → Option Value} (x : But l h g) (F : Fr g L h' m) : But l h h' := fun b o e n => F.keep b o (x b o e n)
theorem ne_addN {L a b : Nat} (h : a ≠ b) : L + a ≠ L + b := fun e => h (Nat.add_left_cancel e)
theorem ne_ch {a b x : Nat} {R : Prop} (h : x < b ∧ R) (k : x < b ∧ R → a < b) : a ≠ b := Nat.ne_of_lt (k h)
theorem ne_ch3 {a b x y : Nat} {R R' : Prop} (h : (x ≠ y ∧ R') ∧ R) (k : (x ≠ y ∧ R') ∧ R → a ≠ b) : a ≠ b := k h
theorem ne_ch2 {a b x y : Nat} {R : Prop} (h : x ≠ y ∧ R) (k : x ≠ y ∧ R → a ≠ b) : a ≠ b := k h
theorem ne_ch4 {a b c x : Nat} {R : Prop} (h2 : c < b) (h : x < c ∧ R) (k : x < c ∧ R → a < c) : a ≠ b := Nat.ne_of_lt (Nat.lt_trans (k h) h2)
theorem of_left {P R Q : Prop} (k : P → Q) : P ∧ R → Q := fun h => k h.1
theorem of_right {P R Q : Prop} (k : R → Q) : P ∧ R → Q := fun h => k h.2
local macro_rules | `(tactic| back_ro) => `(tactic| with_reducible (first | exact id | (refine of_left ?_; back_ro) | (refine of_right ?_; back_ro)))
local macro_rules | `(tactic| back_in) => `(tactic| first | (refine ne_ch3 (by with_reducible assumption) ?_; back_ro) | (refine ne_ch2 (by with_reducible assumption) ?_; back_ro))
local macro_rules | `(tactic| k_ne) => `(tactic| (refine neN ?_; (try dsimp only); first | with_reducible assumption | exact Ne.symm (by with_reducible assumption) | (refine ne_addN ?_; decide) | exact Nat.ne_of_lt (by with_reducible assumption) | exact Nat.ne_of_gt (by with_reducible assumption) | (refine ne_ch (by with_reducible assumption) ?_; back_ro) | (refine (ne_ch (by with_reducible assumption) ?_).symm; back_ro) | (refine ne_ch4 (by with_reducible assumption) (by with_reducible assumption) ?_; back_ro) | (refine (ne_ch4 (by with_reducible assumption) (by with_reducible assumption) ?_).symm; back_ro) | back_in | (refine Ne.symm ?_; back_in) | omega))
local macro_rules | `(tactic| units_room) => `(tactic| (have hcL' := cLine_is; (try simp only [units_in1, units_deeper, Around.mark_units, units_caller]); (try dsimp only [ktrTop]); omega))
local macro_rules | `(tactic| k_units) => `(tactic| units_room)
theorem fd_room {n k : Nat} (h : n + 200 < recursionLimit) (e : k ≤ n + 60) : k + Builtin.pylongFrames < recursionLimit := by
  have : Builtin.pylongFrames ≤ 100 := by decide
  simp only [recursionLimit] at *
  omega
local macro_rules | `(tactic| walk_at "binaryOp FloorDiv int int") => `(tactic| (k_here; with_unfolding_all (refine' floordiv_int ?kbe ?_ (Or.inr (PySem.PylongRoom.of ?kl ?kd)); (case kbe => omega); (case kl => exact PySem.Heap.NoLimit.keeps (Top.nolimit (by assumption)) (Fr.keep (by assumption))); (case kd => (refine' fd_room (by assumption) ?_; simp only [depth_under_make, depth_under_kw, depth_in1, depth_deeper, depth_caller]; (try dsimp only [ktrTop]); omega)))))
theorem pop0 {prog : Program} {w : World} {A : Around} {E : Value → Shared → Prop} {s : Shared} {h₀ : Heap} {L D : Addr} {m : Str → Option Value} {news news' : List (Addr × Obj)} {n : Nat} {u : Tok} {q : List Value} {y : Value} {Q : Value → Shared → Prop} (F : Fr h₀ L s.heap m) (N : News h₀ L s.heap news)
    (U : Upd D (listOf (y :: q).toArray n) (listOf q.toArray (n + 1)) news news') (hz : q.length < 64)
    (h : ∀ h', Fr h₀ L h' m → News h₀ L h' news' → Q y { s with heap := h' }) : wpAny (model prog w) A (call (.builtin "list.pop") [.ref D, .int 0 u]) Q E s :=
  kl_popAt (its := (y :: q).toArray) (p := []) (k := 0) F N rfl (by rw [List.size_toArray, List.length_cons]; unfold seqIndex?; simp) rfl U (by rw [sizeLine_eq]; simp; omega) h
local macro_rules | `(tactic| walk_at "call builtin:list.pop") => `(tactic| (k_here; k_dflt ((with_reducible show wpAny _ _ (call (Value.builtin _) [Value.ref _, Value.int _ _]) _ _ _); refine' pop0 ?F ?N ?U ?z ?_; (case F => k_asm); (case N => k_asm); (case U => k_upd); (case z => omega)); kl_rest))

set_option maxRecDepth 100000
set_option maxHeartbeats 8000000
noncomputable def AtEnd (P : Shared → Prop) (f : Flow) (s : Shared) : Prop := match f with
  | .next => Hold (P s)
  | _ => False
theorem app_wp {M : Model} {A : Around} {E : Value → Shared → Prop} {env : Env} {Q : Flow → Shared → Prop} {l₂ : List Stmt} : ∀ {l₁ : List Stmt} {s : Shared} (Γ : PySem.Ctx) (p : Pos), Γ.In A →
    Sem.wp M Γ (execs l₁ env) (fun f _ s' => AtEnd (fun s' => wpAny M A (execs l₂ env) Q E s') f s') (fun e _ s' => E e s') p s → Sem.wp M Γ (execs (l₁ ++ l₂) env) (fun f _ s' => Q f s') (fun e _ s' => E e s') p s := by
  intro l₁
  induction l₁ with
  | nil => intro s Γ p hΓ h; exact h Γ p hΓ
  | cons a r ih =>
    intro s Γ p hΓ h
    show Sem.wp M Γ (execs (a :: (r ++ l₂)) env) _ _ p s
    rw [execs_cons, Sem.wp_bind'] at h ⊢
    refine Sem.wp_mono M Γ _ (fun f p' s' h' => ?_) (fun _ _ _ z => z) _ _ h
    cases f with
    | next => exact ih Γ p' hΓ h'
    | _ => cases h'
theorem execs_app {M : Model} {A : Around} {E : Value → Shared → Prop} {env : Env} {Q : Flow → Shared → Prop} {l₁ l₂ : List Stmt} {s : Shared} (h : wpAny M A (execs l₁ env) (AtEnd fun s' => wpAny M A (execs l₂ env) Q E s') E s) : wpAny M A (execs (l₁ ++ l₂) env) Q E s :=
  fun Γ p hΓ => app_wp Γ p hΓ (h Γ p hΓ)
theorem execs_cut {M : Model} {A : Around} {E : Value → Shared → Prop} {env : Env} {Q : Flow → Shared → Prop} {l₁ l₂ : List Stmt} {s : Shared} (P : Shared → Prop) (h2 : ∀ s', P s' → wpAny M A (execs l₂ env) Q E s') (h1 : wpAny M A (execs l₁ env) (AtEnd P) E s) : wpAny M A (execs (l₁ ++ l₂) env) Q E s :=
  fun Γ p hΓ => app_wp Γ p hΓ (Sem.wp_mono M Γ _ (fun f p' s' h' => by cases f with
    | next => exact h2 _ h'
    | _ => exact h'.elim) (fun _ _ _ z => z) _ _ (h1 Γ p hΓ))
noncomputable abbrev mOf {h₀ h : Heap} {L : Addr} {m : Str → Option Value} (_ : Fr h₀ L h m) : Str → Option Value := m
theorem draw_ok (w : World) (mean : ExcName → Option Value) (mg mb : Str → Option Value) (dp un : Nat) (gd : Option (List Code)) (cn : Str) (cs : Scope) (a : Addr) (ccd : Value) (cl : List (Str × Addr)) (outer : List Env) (A₀ : Around) (base h₀ : Heap) (L : Addr) (m : Str → Option Value) (s : Shared) (Q E : Value → Shared → Prop)
    (B : Below A₀ base outer h₀) (F : Fr h₀ L s.heap m) (X : (hd.heap_1 w.params).In h₀) (T : Top view (looseW view looseN) mean mg mb h₀) (hk : cs.kind = .function)
    (p q : Addr) (x y many : Int) (tx ty tm : Tok) (n1 n2 : Nat) (vs : List Value) (ns : List Int)
    (N : News h₀ L s.heap [(p, penO q x y tx ty n1), (q, listOf vs.toArray n2)]) (hv : IntsAre vs ns) (hpq : @Ne Nat p q) (hm : 0 < many) (hx : 0 ≤ x) (hlen : vs.length < 64)
    (hd : dp + 200 < recursionLimit) (hu : un + 200 < cLine)
    (ret : ∀ (r : Int) t h' tk' (x' y' : Int) tx' ty' n1' n2' vs' ns', Fr h₀ L h' m → News h₀ L h' [(p, penO q x' y' tx' ty' n1'), (q, listOf vs'.toArray n2')] → IntsAre vs' ns' → vs'.length < 64 → 0 ≤ x' → But [p, q] s.heap h' → 0 ≤ r → r < many → Q (.int r t) { s with heap := h', toks := tk' }) :
    wpAny (model PySem.Challenge.rw_nn0123_01.row.prog w) (ktrTop dp un gd cn cs L a ccd cl outer) (call (.ref 427) [.ref p, .int many tm]) Q E s := by
  revert X; k_fill; intro X
  refine wpAny_call ?_
  (refine' code_defH ?k1 ?k2 ?k3 ?k4 ?k5 ?kA ?kF ?kK ?k6 ?k7 ?k8 ?k9 ?kB ?_ ?c2 ?c3 ?c4 ?c5; (case kA => exact rfl); (case kF => exact rfl); (case kK => assumption); (case k1 => k_asm); (case k2 => k_asm); (case k3 => k_asm); (case k4 => k_asm); (case k5 => k_asm); (case k6 => k_is); (case k7 => k_is); (case k8 => ktr_room); (case k9 => exact BindsTo.of_eq rfl); (case c5 => decide); (case kB => exact locs rfl); (case c2 => exact rfl); (case c3 => exact rfl); (case c4 => exact rfl); k_whole; intro zg' zL' zh' zFG' zF' zN' zB' zX' zT' zhBut' zhSt' zhLt' zhSz'; (try dsimp only); (try simp only [AllLt, and_true] at zhLt'); (try k_fold))
  change wpAny _ _ (execs ([_, _] ++ [_, _, _]) _) _ _ _
  refine execs_cut (fun s' => ∃ h' tk' y' ty' tx' n1' n2' vs' ns', s' = { s with heap := h', toks := tk' } ∧ Fr zg' zL' h' (mOf zF') ∧ News zg' zL' h' [(p, penO q (x + 1) y' tx' ty' n1'), (q, listOf vs'.toArray n2')] ∧ IntsAre vs' ns' ∧ vs'.length < 64) ?_ ?_
  · rintro s' ⟨h', tk', y', ty', tx', n1', n2', vs', ns', rfl, F1, N1, hv', hl'⟩
    dsimp only [mOf] at F1
    clear zF' zN'
    k_steps
    all_goals (refine' ret _ _ _ _ _ _ _ _ _ _ _ _ ?e1 ?e2 ?e3 ?e4 ?e5 ?e6 ?e7 ?e8; (case e1 => assumption); (case e2 => (refine' news2 (by assumption) ?m1 ?m2; (case m1 => k_mem); (case m2 => k_mem))); (case e3 => assumption); (case e4 => assumption); (case e5 => omega); (case e6 => exact But.ofFr (by assumption) (by assumption)); (case e7 => exact Int.fmod_nonneg_of_pos _ hm); (case e8 => exact Int.fmod_lt_of_pos _ hm))
  · cases hv with
    | nil =>
      k_steps
      all_goals (unfold AtEnd; refine' ⟨_, _, _, _, _, _, _, _, _, rfl, ?e1, ?e2, ?e3, ?e4⟩; (case e3 => exact IntsAre.nil); (case e4 => assumption); (case e1 => assumption); (case e2 => (refine' news2 (by assumption) ?m1 ?m2; (case m1 => k_mem); (case m2 => k_mem))))
    | cons =>
      rw [List.length_cons] at hlen
      k_steps
      all_goals (unfold AtEnd; refine' ⟨_, _, _, _, _, _, _, _, _, rfl, ?e1, ?e2, ?e3, ?e4⟩; (case e1 => assumption); (case e2 => (refine' news2 (by assumption) ?m1 ?m2; (case m1 => k_mem); (case m2 => k_mem))); (case e3 => first | assumption | exact IntsAre.cons _ _ (by assumption)); (case e4 => (simp only [List.length_cons, List.length_nil] at *; omega)))

set_option maxRecDepth 100000
set_option maxHeartbeats 8000000

inductive P where
  | none | bool (b : Bool) | int (i : Int) | str (x : Str) | dec | ref (n : Int) | name (x : Str)
inductive D where
  | p (p : P) | list (l : List P) | emp
noncomputable def P.isRef : P → Bool | .ref _ => true | _ => false
noncomputable def P.isName : P → Bool | .name _ => true | _ => false
noncomputable def P.cnt : P → Bool | .int i => decide (0 ≤ i) | _ => false
noncomputable def P.isInt : P → Bool | .int _ => true | .bool _ => true | _ => false
noncomputable def P.isBool : P → Bool | .bool _ => true | _ => false
noncomputable def P.isNone : P → Bool | .none => true | _ => false

noncomputable def IsP (g : Heap) (v : Value) : P → Prop
  | .none => v = .none
  | .bool b => v = .bool b
  | .int i => ∃ t, v = .int i t
  | .str x => ∃ t, v = .str x t
  | .dec => ∃ a dx od, v = .ref a ∧ g.get? a = some (instObj 155 dx) ∧ g.get? dx = some od
  | .ref n => ∃ a dx es k t t', v = .ref a ∧ g.get? a = some (instObj 261 dx) ∧ g.get? dx = some (dictOf es k) ∧ getL "number" es = some (some (.int n t)) ∧ getL "generation" es = some (some (.int 0 t'))
  | .name x => ∃ a dx es k t, v = .ref a ∧ g.get? a = some (instObj 190 dx) ∧ g.get? dx = some (dictOf es k) ∧ getL "text" es = some (some (.str x t))
noncomputable def IsPs (g : Heap) : List Value → List P → Prop
  | [], [] => True
  | v :: vs, p :: ps => IsP g v p ∧ IsPs g vs ps
  | _, _ => False
noncomputable def IsD (g : Heap) (v : Value) : D → Prop
  | .p p => IsP g v p
  | .list ps => ∃ a vs n, v = .ref a ∧ g.get? a = some (listOf vs.toArray n) ∧ IsPs g vs ps ∧ ps.length ≤ 64
  | .emp => ∃ a n, v = .ref a ∧ g.get? a = some (dictOf [] n)

theorem IsP.keeps {g h : Heap} {v : Value} {p : P} (x : IsP g v p) (k : ∀ b o, g.get? b = some o → h.get? b = some o) : IsP h v p := by
  cases p with
  | dec => obtain ⟨a, dx, od, h1, h2, h3⟩ := x; exact ⟨a, dx, od, h1, k _ _ h2, k _ _ h3⟩
  | ref n => obtain ⟨a, dx, es, k', t, t', h1, h2, h3, h4⟩ := x; exact ⟨a, dx, es, k', t, t', h1, k _ _ h2, k _ _ h3, h4⟩
  | name n => obtain ⟨a, dx, es, k', t, h1, h2, h3, h4⟩ := x; exact ⟨a, dx, es, k', t, h1, k _ _ h2, k _ _ h3, h4⟩
  | _ => exact x
theorem IsPs.keeps {g h : Heap} (k : ∀ b o, g.get? b = some o → h.get? b = some o) : ∀ {vs : List Value} {ps : List P}, IsPs g vs ps → IsPs h vs ps
  | [], [], _ => trivial
  | _ :: _, _ :: _, x => ⟨x.1.keeps k, IsPs.keeps k x.2⟩
theorem IsD.keeps {g h : Heap} {v : Value} {d : D} (x : IsD g v d) (k : ∀ b o, g.get? b = some o → h.get? b = some o) : IsD h v d := by
  cases d with
  | p p => exact IsP.keeps x k
  | list ps => obtain ⟨a, vs, n, h1, h2, h3, h4⟩ := x; exact ⟨a, vs, n, h1, k _ _ h2, h3.keeps k, h4⟩
  | emp => obtain ⟨a, n, h1, h2⟩ := x; exact ⟨a, n, h1, k _ _ h2⟩

theorem instAt_of {h : Heap} {x C dx : Addr} {od : Obj} (h1 : h.get? x = some (instObj C dx)) (h2 : h.get? dx = some od) : InstAt h x (instObj C dx) C (some od) := ⟨h1, rfl, rfl, h2⟩
local macro_rules | `(tactic| k_inst) => `(tactic| (refine' instAt_of ?h1 ?h2; (case h1 => first | assumption | exact Fr.keep (by assumption) _ _ (by assumption)); (case h2 => first | assumption | exact Fr.keep (by assumption) _ _ (by assumption))))

local macro_rules | `(tactic| kit_at) => `(tactic| first | exact ⟨_, by assumption, rfl⟩ | exact ⟨_, Fr.keep (by assumption) _ _ (by assumption), rfl⟩)
section
variable {w : World} {A : Around} {E Q : Value → Shared → Prop} {s : Shared} {g : Heap} {L : Addr} {m : Str → Option Value} {v : Value} {p : P} {d : D}
noncomputable def D.isi : D → String → Bool
  | .p (.ref _), "ref" => true
  | .p (.name _), "nam" => true
  | .list _, "lst" => true
  | .p (.int _), "int" => true
  | .p (.bool _), "int" => true
  | .p (.bool _), "boo" => true
  | _, _ => false
theorem isi_ref (F : Fr g L s.heap m) (X : (hd.heap_1 w.params).In g) (hv : IsD g v d) (h : ∀ tk, Q (.bool (d.isi "ref")) { s with toks := tk }) : wpAny (model PySem.Challenge.rw_nn0123_01.row.prog w) A (call (.builtin "isinstance") [v, .ref 261]) Q E s := by
  revert X; k_fill; intro X
  cases d with
  | p p => cases p with
    | none => cases hv; walk1; exact h _
    | bool b => cases hv; walk1; exact h _
    | int i => obtain ⟨t, rfl⟩ := hv; walk1; exact h _
    | str i => obtain ⟨t, rfl⟩ := hv; walk1; exact h _
    | dec => obtain ⟨a, dx, od, rfl, h1, h2⟩ := hv; walk1; exact h _
    | ref n => obtain ⟨a, dx, es, k', t, t', rfl, h1, h2, h3, h4⟩ := hv; walk1; exact h _
    | name n => obtain ⟨a, dx, es, k', t, rfl, h1, h2, h3⟩ := hv; walk1; exact h _
  | list ps => obtain ⟨a, vs, n, rfl, h1, h2⟩ := hv; have h1' := F.keep _ _ h1; walk1; exact h _
  | emp => obtain ⟨a, n, rfl, h1⟩ := hv; have h1' := F.keep _ _ h1; walk1; exact h _
theorem isi_nam (F : Fr g L s.heap m) (X : (hd.heap_1 w.params).In g) (hv : IsD g v d) (h : ∀ tk, Q (.bool (d.isi "nam")) { s with toks := tk }) : wpAny (model PySem.Challenge.rw_nn0123_01.row.prog w) A (call (.builtin "isinstance") [v, .ref 190]) Q E s := by
  revert X; k_fill; intro X
  cases d with
  | p p => cases p with
    | none => cases hv; walk1; exact h _
    | bool b => cases hv; walk1; exact h _
    | int i => obtain ⟨t, rfl⟩ := hv; walk1; exact h _
    | str i => obtain ⟨t, rfl⟩ := hv; walk1; exact h _
    | dec => obtain ⟨a, dx, od, rfl, h1, h2⟩ := hv; walk1; exact h _
    | ref n => obtain ⟨a, dx, es, k', t, t', rfl, h1, h2, h3, h4⟩ := hv; walk1; exact h _
    | name n => obtain ⟨a, dx, es, k', t, rfl, h1, h2, h3⟩ := hv; walk1; exact h _
  | list ps => obtain ⟨a, vs, n, rfl, h1, h2⟩ := hv; have h1' := F.keep _ _ h1; walk1; exact h _
  | emp => obtain ⟨a, n, rfl, h1⟩ := hv; have h1' := F.keep _ _ h1; walk1; exact h _
theorem isi_lst (F : Fr g L s.heap m) (X : (hd.heap_1 w.params).In g) (hv : IsD g v d) (h : ∀ tk, Q (.bool (d.isi "lst")) { s with toks := tk }) : wpAny (model PySem.Challenge.rw_nn0123_01.row.prog w) A (call (.builtin "isinstance") [v, .type "list"]) Q E s := by
  revert X; k_fill; intro X
  cases d with
  | p p => cases p with
    | none => cases hv; walk1; exact h _
    | bool b => cases hv; walk1; exact h _
    | int i => obtain ⟨t, rfl⟩ := hv; walk1; exact h _
    | str i => obtain ⟨t, rfl⟩ := hv; walk1; exact h _
    | dec => obtain ⟨a, dx, od, rfl, h1, h2⟩ := hv; walk1; exact h _
    | ref n => obtain ⟨a, dx, es, k', t, t', rfl, h1, h2, h3, h4⟩ := hv; walk1; exact h _
    | name n => obtain ⟨a, dx, es, k', t, rfl, h1, h2, h3⟩ := hv; walk1; exact h _
  | list ps => obtain ⟨a, vs, n, rfl, h1, h2⟩ := hv; have h1' := F.keep _ _ h1; walk1; exact h _
  | emp => obtain ⟨a, n, rfl, h1⟩ := hv; have h1' := F.keep _ _ h1; walk1; exact h _
theorem isi_int (F : Fr g L s.heap m) (X : (hd.heap_1 w.params).In g) (hv : IsD g v d) (h : ∀ tk, Q (.bool (d.isi "int")) { s with toks := tk }) : wpAny (model PySem.Challenge.rw_nn0123_01.row.prog w) A (call (.builtin "isinstance") [v, .type "int"]) Q E s := by
  revert X; k_fill; intro X
  cases d with
  | p p => cases p with
    | none => cases hv; walk1; exact h _
    | bool b => cases hv; walk1; exact h _
    | int i => obtain ⟨t, rfl⟩ := hv; walk1; exact h _
    | str i => obtain ⟨t, rfl⟩ := hv; walk1; exact h _
    | dec => obtain ⟨a, dx, od, rfl, h1, h2⟩ := hv; walk1; exact h _
    | ref n => obtain ⟨a, dx, es, k', t, t', rfl, h1, h2, h3, h4⟩ := hv; walk1; exact h _
    | name n => obtain ⟨a, dx, es, k', t, rfl, h1, h2, h3⟩ := hv; walk1; exact h _
  | list ps => obtain ⟨a, vs, n, rfl, h1, h2⟩ := hv; have h1' := F.keep _ _ h1; walk1; exact h _
  | emp => obtain ⟨a, n, rfl, h1⟩ := hv; have h1' := F.keep _ _ h1; walk1; exact h _
theorem isi_boo (F : Fr g L s.heap m) (X : (hd.heap_1 w.params).In g) (hv : IsD g v d) (h : ∀ tk, Q (.bool (d.isi "boo")) { s with toks := tk }) : wpAny (model PySem.Challenge.rw_nn0123_01.row.prog w) A (call (.builtin "isinstance") [v, .type "bool"]) Q E s := by
  revert X; k_fill; intro X
  cases d with
  | p p => cases p with
    | none => cases hv; walk1; exact h _
    | bool b => cases hv; walk1; exact h _
    | int i => obtain ⟨t, rfl⟩ := hv; walk1; exact h _
    | str i => obtain ⟨t, rfl⟩ := hv; walk1; exact h _
    | dec => obtain ⟨a, dx, od, rfl, h1, h2⟩ := hv; walk1; exact h _
    | ref n => obtain ⟨a, dx, es, k', t, t', rfl, h1, h2, h3, h4⟩ := hv; walk1; exact h _
    | name n => obtain ⟨a, dx, es, k', t, rfl, h1, h2, h3⟩ := hv; walk1; exact h _
  | list ps => obtain ⟨a, vs, n, rfl, h1, h2⟩ := hv; have h1' := F.keep _ _ h1; walk1; exact h _
  | emp => obtain ⟨a, n, rfl, h1⟩ := hv; have h1' := F.keep _ _ h1; walk1; exact h _
noncomputable def D.isNone : D → Bool
  | .p .none => true
  | _ => false
theorem is_none_ (F : Fr g L s.heap m) (X : (hd.heap_1 w.params).In g) (hv : IsD g v d) (h : ∀ tk, Q (.bool d.isNone) { s with toks := tk }) : wpAny (model PySem.Challenge.rw_nn0123_01.row.prog w) A (compareOp .Is v .none) Q E s := by
  revert X; k_fill; intro X
  cases d with
  | p p => cases p with
    | none => cases hv; walk1; exact h _
    | bool b => cases hv; walk1; exact h _
    | int i => obtain ⟨t, rfl⟩ := hv; walk1; exact h _
    | str i => obtain ⟨t, rfl⟩ := hv; walk1; exact h _
    | dec => obtain ⟨a, dx, od, rfl, h1, h2⟩ := hv; walk1; exact h _
    | ref n => obtain ⟨a, dx, es, k', t, t', rfl, h1, h2, h3, h4⟩ := hv; walk1; exact h _
    | name n => obtain ⟨a, dx, es, k', t, rfl, h1, h2, h3⟩ := hv; walk1; exact h _
  | list ps => obtain ⟨a, vs, n, rfl, h1, h2⟩ := hv; walk1; exact h _
  | emp => obtain ⟨a, n, rfl, h1⟩ := hv; walk1; exact h _
end

set_option maxRecDepth 100000
set_option maxHeartbeats 8000000
noncomputable def D.cnt : D → Bool
  | .p (.int i) => decide (0 ≤ i)
  | _ => false
theorem is_count_ok {w : World} {mean : ExcName → Option Value} {mg mb : Str → Option Value} {dp un : Nat} {gd : Option (List Code)} {cn : Str} {cs : Scope} {a : Addr} {ccd : Value} {cl : List (Str × Addr)} {outer : List Env} {A₀ : Around} {base h₀ : Heap} {L : Addr} {m : Str → Option Value} {s : Shared} {Q E : Value → Shared → Prop}
    (B : Below A₀ base outer h₀) (F : Fr h₀ L s.heap m) (X : (hd.heap_1 w.params).In h₀) (T : Top view (looseW view looseN) mean mg mb h₀) (hk : cs.kind = .function)
    {v : Value} {d : D}
    (N : News h₀ L s.heap []) (hv : IsD s.heap v d)
    (hd : dp + 200 < recursionLimit) (hu : un + 200 < cLine)
    (ret : ∀  h' tk', Fr h₀ L h' m → But [] s.heap h' → Q (.bool d.cnt) { s with heap := h', toks := tk' }) :
    wpAny (model PySem.Challenge.rw_nn0123_01.row.prog w) (ktrTop dp un gd cn cs L a ccd cl outer) (call (.ref 380) [v]) Q E s := by
  revert X; k_fill; intro X
  refine wpAny_call ?_
  (refine' code_defH ?k1 ?k2 ?k3 ?k4 ?k5 ?kA ?kF ?kK ?k6 ?k7 ?k8 ?k9 ?kB ?_ ?c2 ?c3 ?c4 ?c5; (case kA => exact rfl); (case kF => exact rfl); (case kK => assumption); (case k1 => k_asm); (case k2 => k_asm); (case k3 => k_asm); (case k4 => k_asm); (case k5 => k_asm); (case k6 => k_is); (case k7 => k_is); (case k8 => ktr_room); (case k9 => exact BindsTo.of_eq rfl); (case c5 => decide); (case kB => exact locs rfl); (case c2 => exact rfl); (case c3 => exact rfl); (case c4 => exact rfl); k_whole; intro zg' zL' zh' zFG' zF' zN' zB' zX' zT' zhBut' zhSt' zhLt' zhSz'; (try dsimp only); (try simp only [AllLt, and_true] at zhLt'); (try k_fold))
  rename But _ _ _ => hB1
  have hv := hv.keeps (fun b o e => hB1 b o e (by simp))
  cases d with
  | p p => cases p with
    | none => cases hv; (k_steps; all_goals (exact ret _ _ (by assumption) (But.ofFr (by assumption) (by assumption))))
    | bool b => cases hv; (k_steps; all_goals (exact ret _ _ (by assumption) (But.ofFr (by assumption) (by assumption))))
    | int i => obtain ⟨t, rfl⟩ := hv; (k_steps; all_goals (exact ret _ _ (by assumption) (But.ofFr (by assumption) (by assumption))))
    | str i => obtain ⟨t, rfl⟩ := hv; (k_steps; all_goals (exact ret _ _ (by assumption) (But.ofFr (by assumption) (by assumption))))
    | dec => obtain ⟨a, dx, od, rfl, h1, h2⟩ := hv; (k_steps; all_goals (exact ret _ _ (by assumption) (But.ofFr (by assumption) (by assumption))))
    | ref n => obtain ⟨a, dx, es, k', t, t', rfl, h1, h2, h3, h4⟩ := hv; (k_steps; all_goals (exact ret _ _ (by assumption) (But.ofFr (by assumption) (by assumption))))
    | name n => obtain ⟨a, dx, es, k', t, rfl, h1, h2, h3⟩ := hv; (k_steps; all_goals (exact ret _ _ (by assumption) (But.ofFr (by assumption) (by assumption))))
  | list ps => obtain ⟨a, vs, n, rfl, h1, h2⟩ := hv; (k_steps; all_goals (exact ret _ _ (by assumption) (But.ofFr (by assumption) (by assumption))))
  | emp => obtain ⟨a, n, rfl, h1⟩ := hv; (k_steps; all_goals (exact ret _ _ (by assumption) (But.ofFr (by assumption) (by assumption))))
theorem law_is_count_ok {w : World} {mean : ExcName → Option Value} {mg mb : Str → Option Value} {dp un : Nat} {gd : Option (List Code)} {cn : Str} {cs : Scope} {a : Addr} {ccd : Value} {cl : List (Str × Addr)} {outer : List Env} {A₀ : Around} {base h₀ : Heap} {L : Addr} {m : Str → Option Value} {s : Shared} {Q E : Value → Shared → Prop}
    (B : Below A₀ base outer h₀) (F : Fr h₀ L s.heap m) (X : (hd.heap_1 w.params).In h₀) (T : Top view (looseW view looseN) mean mg mb h₀) (hk : cs.kind = .function)
    {v : Value} {d : D}
    (N : News h₀ L s.heap []) (hv : IsD s.heap v d)
    (hd : dp + 200 < recursionLimit) (hu : un + 200 < cLine)
    (ret : ∀  h' tk', Fr h₀ L h' m → But [] s.heap h' → Q (.bool d.cnt) { s with heap := h', toks := tk' }) :
    wpAny (model PySem.Challenge.rw_nn0123_01.row.prog w) (ktrTop dp un gd cn cs L a ccd cl outer) (call (.ref 472) [v]) Q E s := by
  revert X; k_fill; intro X
  refine wpAny_call ?_
  (refine' code_defH ?k1 ?k2 ?k3 ?k4 ?k5 ?kA ?kF ?kK ?k6 ?k7 ?k8 ?k9 ?kB ?_ ?c2 ?c3 ?c4 ?c5; (case kA => exact rfl); (case kF => exact rfl); (case kK => assumption); (case k1 => k_asm); (case k2 => k_asm); (case k3 => k_asm); (case k4 => k_asm); (case k5 => k_asm); (case k6 => k_is); (case k7 => k_is); (case k8 => ktr_room); (case k9 => exact BindsTo.of_eq rfl); (case c5 => decide); (case kB => exact locs rfl); (case c2 => exact rfl); (case c3 => exact rfl); (case c4 => exact rfl); k_whole; intro zg' zL' zh' zFG' zF' zN' zB' zX' zT' zhBut' zhSt' zhLt' zhSz'; (try dsimp only); (try simp only [AllLt, and_true] at zhLt'); (try k_fold))
  rename But _ _ _ => hB1
  have hv := hv.keeps (fun b o e => hB1 b o e (by simp))
  cases d with
  | p p => cases p with
    | none => cases hv; (k_steps; all_goals (exact ret _ _ (by assumption) (But.ofFr (by assumption) (by assumption))))
    | bool b => cases hv; (k_steps; all_goals (exact ret _ _ (by assumption) (But.ofFr (by assumption) (by assumption))))
    | int i => obtain ⟨t, rfl⟩ := hv; (k_steps; all_goals (exact ret _ _ (by assumption) (But.ofFr (by assumption) (by assumption))))
    | str i => obtain ⟨t, rfl⟩ := hv; (k_steps; all_goals (exact ret _ _ (by assumption) (But.ofFr (by assumption) (by assumption))))
    | dec => obtain ⟨a, dx, od, rfl, h1, h2⟩ := hv; (k_steps; all_goals (exact ret _ _ (by assumption) (But.ofFr (by assumption) (by assumption))))
    | ref n => obtain ⟨a, dx, es, k', t, t', rfl, h1, h2, h3, h4⟩ := hv; (k_steps; all_goals (exact ret _ _ (by assumption) (But.ofFr (by assumption) (by assumption))))
    | name n => obtain ⟨a, dx, es, k', t, rfl, h1, h2, h3⟩ := hv; (k_steps; all_goals (exact ret _ _ (by assumption) (But.ofFr (by assumption) (by assumption))))
  | list ps => obtain ⟨a, vs, n, rfl, h1, h2⟩ := hv; (k_steps; all_goals (exact ret _ _ (by assumption) (But.ofFr (by assumption) (by assumption))))
  | emp => obtain ⟨a, n, rfl, h1⟩ := hv; (k_steps; all_goals (exact ret _ _ (by assumption) (But.ofFr (by assumption) (by assumption))))

set_option maxRecDepth 100000
set_option maxHeartbeats 8000000
noncomputable def KV {K : Type} (R : Value → D → Prop) : List (K × Value) → List (K × D) → Prop
  | [], [] => True
  | a :: l, b :: r => a.1 = b.1 ∧ R a.2 b.2 ∧ KV R l r
  | _, _ => False
noncomputable def lookT {K : Type} [DecidableEq K] (T : List (K × D)) (k : K) : Option D := (T.find? fun x => x.1 = k).map (·.2)
theorem KV.at {K : Type} [DecidableEq K] {R : Value → D → Prop} (k : K) : ∀ {l : List (K × Value)} {r : List (K × D)}, KV R l r → (valueAt l k = none ∧ lookT r k = none) ∨ ∃ v d, valueAt l k = some v ∧ lookT r k = some d ∧ R v d
  | [], [], _ => .inl ⟨rfl, rfl⟩
  | a :: l, b :: r, h => by
    obtain ⟨h1, h2, h3⟩ := h
    by_cases e : a.1 = k
    · refine .inr ⟨a.2, b.2, ?_, ?_, h2⟩
      · simp [valueAt, e]
      · simp [lookT, ← h1, e]
    · have ih := KV.at k h3
      have e1 : valueAt (a :: l) k = valueAt l k := by simp [valueAt, e]
      have e2 : lookT (b :: r) k = lookT r k := by simp [lookT, ← h1, e]
      rw [e1, e2]; exact ih
theorem KV.mono {K : Type} {R R' : Value → D → Prop} (f : ∀ v d, R v d → R' v d) : ∀ {l : List (K × Value)} {r : List (K × D)}, KV R l r → KV R' l r
  | [], [], _ => trivial
  | _ :: _, _ :: _, h => ⟨h.1, f _ _ h.2.1, KV.mono f h.2.2⟩

noncomputable abbrev IK (w : World) : KeyKind PySem.Challenge.rw_nn0123_01.row.prog w Int := intKind PySem.Challenge.rw_nn0123_01.row.prog w
noncomputable abbrev SK (w : World) : KeyKind PySem.Challenge.rw_nn0123_01.row.prog w Str := strKind PySem.Challenge.rw_nn0123_01.row.prog w
noncomputable def IsRow (h : Heap) (v : Value) (d : D) : Prop := ∃ a x t, v = .ref a ∧ IsTup h a #[.int 0 t, x] ∧ IsD h x d
noncomputable def IsTabS (w : World) (h : Heap) (t : Addr) (T : List (Int × D)) : Prop := (t == sysModules) = false ∧ ∃ kvs, h.DictOf (IK w) t kvs ∧ KV (IsRow h) kvs T
noncomputable def IsTabL (w : World) (h : Heap) (t : Addr) (T : List (Int × D)) : Prop := (t == sysModules) = false ∧ ∃ kvs, h.DictOf (IK w) t kvs ∧ KV (IsD h) kvs T
noncomputable def IsHead (w : World) (h : Heap) (t : Addr) (H : List (Str × D)) : Prop := (t == sysModules) = false ∧ ∃ kvs, h.DictOf (SK w) t kvs ∧ KV (IsD h) kvs H
theorem dictOf_keeps {K : Type} [DecidableEq K] {prog : Program} {w : World} {knd : KeyKind prog w K} {g h : Heap} {a : Addr} {kvs : List (K × Value)} (k : ∀ b o, g.get? b = some o → h.get? b = some o) (x : g.DictOf knd a kvs) : h.DictOf knd a kvs := by
  obtain ⟨o, es, ep, ho, r⟩ := x; exact ⟨o, es, ep, k _ _ ho, r⟩
theorem isTup_keeps {g h : Heap} {a : Addr} {its : Array Value} (k : ∀ b o, g.get? b = some o → h.get? b = some o) (x : IsTup g a its) : IsTup h a its := x.keeps k
theorem IsRow.keeps {g h : Heap} {v : Value} {d : D} (k : ∀ b o, g.get? b = some o → h.get? b = some o) (x : IsRow g v d) : IsRow h v d := by
  obtain ⟨a, y, t, h1, h2, h3⟩ := x; exact ⟨a, y, t, h1, h2.keeps k, h3.keeps k⟩
theorem IsTabS.keeps {w : World} {g h : Heap} {t : Addr} {T : List (Int × D)} (k : ∀ b o, g.get? b = some o → h.get? b = some o) (x : IsTabS w g t T) : IsTabS w h t T := by
  obtain ⟨e, kvs, h1, h2⟩ := x; exact ⟨e, kvs, dictOf_keeps k h1, h2.mono fun _ _ r => r.keeps k⟩
theorem IsTabL.keeps {w : World} {g h : Heap} {t : Addr} {T : List (Int × D)} (k : ∀ b o, g.get? b = some o → h.get? b = some o) (x : IsTabL w g t T) : IsTabL w h t T := by
  obtain ⟨e, kvs, h1, h2⟩ := x; exact ⟨e, kvs, dictOf_keeps k h1, h2.mono fun _ _ r => r.keeps k⟩
theorem IsHead.keeps {w : World} {g h : Heap} {t : Addr} {T : List (Str × D)} (k : ∀ b o, g.get? b = some o → h.get? b = some o) (x : IsHead w g t T) : IsHead w h t T := by
  obtain ⟨e, kvs, h1, h2⟩ := x; exact ⟨e, kvs, dictOf_keeps k h1, h2.mono fun _ _ r => r.keeps k⟩

noncomputable def D.isRef : D → Bool | .p (.ref _) => true | _ => false
theorem D.isi_ref (d : D) : d.isi "ref" = d.isRef := by
  cases d with
  | p p => cases p <;> rfl
  | _ => rfl
noncomputable def step (T : List (Int × D)) : D → D
  | .p (.ref n) => (lookT T n).getD (.p .none)
  | d => d
noncomputable def fetchK (T : List (Int × D)) : Nat → D → D
  | 0, d => if d.isRef then .p .none else d
  | k + 1, d => if d.isRef then fetchK T k (step T d) else d
theorem fetchK_non {T : List (Int × D)} {d : D} (h : d.isRef = false) : ∀ k, fetchK T k d = d
  | 0 => by simp [fetchK, h]
  | _ + 1 => by simp [fetchK, h]
noncomputable def IsShelf (w : World) (h : Heap) (v : Value) (T : List (Int × D)) : Prop := ∃ x dx es n t, v = .ref x ∧ h.get? x = some (instObj 370 dx) ∧ h.get? dx = some (dictOf es n) ∧ getL "table" es = some (some (.ref t)) ∧ getL "fetch" es = some none ∧ getL "get" es = some none ∧ IsTabS w h t T
theorem IsShelf.keeps {w : World} {g h : Heap} {v : Value} {T : List (Int × D)} (k : ∀ b o, g.get? b = some o → h.get? b = some o) (x : IsShelf w g v T) : IsShelf w h v T := by
  obtain ⟨x, dx, es, n, t, h1, h2, h3, h4, h5, h6, h7⟩ := x; exact ⟨x, dx, es, n, t, h1, k _ _ h2, k _ _ h3, h4, h5, h6, h7.keeps k⟩


noncomputable def lawF (T : List (Int × D)) : Nat → D → D
  | 0, _ => .p .none
  | k + 1, d => if d.isRef then lawF T k (step T d) else d
theorem lawF_non {T : List (Int × D)} {d : D} (h : d.isRef = false) (k : Nat) : lawF T (k + 1) d = d := by simp [lawF, h]
noncomputable def headAt (H : List (Str × D)) (k : Str) : D := (lookT H k).getD (.p .none)
section
variable {w : World} {A : Around} {E : Value → Shared → Prop} {s : Shared} {g : Heap} {L t : Addr} {m : Str → Option Value}
theorem dget_m {K : Type} [DecidableEq K] {knd : KeyKind PySem.Challenge.rw_nn0123_01.row.prog w K} {kvs : List (K × Value)} {pl : Sem Bool} {Q : Value × List Value → Shared → Prop} (hD : s.heap.DictOf knd t kvs) (q : Q (.builtin "dict.get", [.ref t]) s) : wpAny (model PySem.Challenge.rw_nn0123_01.row.prog w) A (getMethod (.ref t) "get" pl) Q E s :=
  getMethod_builtin hD.typeIs PySem.F.plainAttrs_dict PySem.F.slot_dict_get PySem.F.type_dict_get hD.mapOf.noDict q
theorem dget_mS {T : List (Int × D)} {pl : Sem Bool} {Q : Value × List Value → Shared → Prop} (k : ∀ b o, g.get? b = some o → s.heap.get? b = some o) (h : IsTabS w g t T) (q : Q (.builtin "dict.get", [.ref t]) s) : wpAny (model PySem.Challenge.rw_nn0123_01.row.prog w) A (getMethod (.ref t) "get" pl) Q E s := by
  obtain ⟨_, kvs, h1, _⟩ := h; exact dget_m (dictOf_keeps k h1) q
theorem dget_mL {T : List (Int × D)} {pl : Sem Bool} {Q : Value × List Value → Shared → Prop} (k : ∀ b o, g.get? b = some o → s.heap.get? b = some o) (h : IsTabL w g t T) (q : Q (.builtin "dict.get", [.ref t]) s) : wpAny (model PySem.Challenge.rw_nn0123_01.row.prog w) A (getMethod (.ref t) "get" pl) Q E s := by
  obtain ⟨_, kvs, h1, _⟩ := h; exact dget_m (dictOf_keeps k h1) q
theorem dget_mH {T : List (Str × D)} {pl : Sem Bool} {Q : Value × List Value → Shared → Prop} (k : ∀ b o, g.get? b = some o → s.heap.get? b = some o) (h : IsHead w g t T) (q : Q (.builtin "dict.get", [.ref t]) s) : wpAny (model PySem.Challenge.rw_nn0123_01.row.prog w) A (getMethod (.ref t) "get" pl) Q E s := by
  obtain ⟨_, kvs, h1, _⟩ := h; exact dget_m (dictOf_keeps k h1) q
theorem dget_2S {T : List (Int × D)} {Q : Value → Shared → Prop} {n : Int} {tk : Tok} {dflt : Value} (k : ∀ b o, g.get? b = some o → s.heap.get? b = some o) (h : IsTabS w g t T)
    (q : ∀ v, (lookT T n = none ∧ v = dflt) ∨ (∃ d, lookT T n = some d ∧ IsRow g v d) → Q v { s with toks := s.toks + 1 }) : wpAny (model PySem.Challenge.rw_nn0123_01.row.prog w) A (call (.builtin "dict.get") [.ref t, .int n tk, dflt]) Q E s := by
  obtain ⟨lo, kvs, h1, h2⟩ := h
  have hD := dictOf_keeps k h1
  refine call_meetsIn PySem.F.slot_dict_get hD.typeIs PySem.F.entry_dict_get (PySem.F.args_dict_get_3 _ _ _) (meets_dict_get_default (IK w) t (k := n) (intKind_is _ _ _ _) lo dflt) ⟨_, hD.mapOf, q _ ?_⟩
  rcases h2.at n with ⟨a, b⟩ | ⟨v, d, a, b, c⟩
  · rw [a]; exact .inl ⟨b, rfl⟩
  · rw [a]; exact .inr ⟨d, b, c⟩
theorem dget_1L {T : List (Int × D)} {Q : Value → Shared → Prop} {n : Int} {tk : Tok} (k : ∀ b o, g.get? b = some o → s.heap.get? b = some o) (h : IsTabL w g t T)
    (q : ∀ v, IsD g v (step T (.p (.ref n))) → Q v { s with toks := s.toks + 1 }) : wpAny (model PySem.Challenge.rw_nn0123_01.row.prog w) A (call (.builtin "dict.get") [.ref t, .int n tk]) Q E s := by
  obtain ⟨lo, kvs, h1, h2⟩ := h
  have hD := dictOf_keeps k h1
  refine call_meetsIn PySem.F.slot_dict_get hD.typeIs PySem.F.entry_dict_get (PySem.F.args_dict_get_2 _ _) (meets_dict_get (IK w) t (k := n) (intKind_is _ _ _ _) lo) ⟨_, hD.mapOf, q _ ?_⟩
  rcases h2.at n with ⟨a, b⟩ | ⟨v, d, a, b, c⟩
  · rw [a]; show IsD g .none _; simp only [step, b]; exact rfl
  · rw [a]; show IsD g v _; simp only [step, b]; exact c
theorem dget_1H {T : List (Str × D)} {Q : Value → Shared → Prop} {n : Str} {tk : Tok} (k : ∀ b o, g.get? b = some o → s.heap.get? b = some o) (h : IsHead w g t T)
    (q : ∀ v, IsD g v (headAt T n) → Q v { s with toks := s.toks + 1 }) : wpAny (model PySem.Challenge.rw_nn0123_01.row.prog w) A (call (.builtin "dict.get") [.ref t, .str n tk]) Q E s := by
  obtain ⟨lo, kvs, h1, h2⟩ := h
  have hD := dictOf_keeps k h1
  refine call_meetsIn PySem.F.slot_dict_get hD.typeIs PySem.F.entry_dict_get (PySem.F.args_dict_get_2 _ _) (meets_dict_get (SK w) t (k := n) (strKind_is _ _ _ _) lo) ⟨_, hD.mapOf, q _ ?_⟩
  rcases h2.at n with ⟨a, b⟩ | ⟨v, d, a, b, c⟩
  · rw [a]; show IsD g .none _; simp only [headAt, b]; exact rfl
  · rw [a]; show IsD g v _; simp only [headAt, b]; exact c
end
theorem stays_trans {g g1 h : Heap} (a : ∀ b o, g.get? b = some o → g1.get? b = some o) (b : ∀ b o, g1.get? b = some o → h.get? b = some o) : ∀ c o, g.get? c = some o → h.get? c = some o := fun c o e => b c o (a c o e)
theorem newsStay {h₀ h h' : Heap} {L : Addr} {l : List (Addr × Obj)} (N : News h₀ L h l) (b : But [] h h') : News h₀ L h' l := fun p hp => ⟨b _ _ (N p hp).1 (by simp), (N p hp).2⟩
local macro_rules | `(tactic| k_get) => `(tactic| assumption)
local macro_rules | `(tactic| kct_strs) => `(tactic| first | exact Fr.keep (by assumption) | exact stays_trans (by assumption) (Fr.keep (by assumption)))
local macro_rules | `(tactic| kbo_bools) => `(tactic| first | assumption | exact IsD.keeps (by assumption) (by assumption))
local macro_rules | `(tactic| walk_at "getMethod ref") => `(tactic| (k_here; k_dflt (refine' dget_mS ?F ?h ?_; (case h => assumption); (case F => kct_strs))))
local macro_rules | `(tactic| walk_at "getMethod ref") => `(tactic| (k_here; k_dflt (refine' dget_mL ?F ?h ?_; (case h => assumption); (case F => kct_strs))))
local macro_rules | `(tactic| walk_at "getMethod ref") => `(tactic| (k_here; k_dflt (refine' dget_mH ?F ?h ?_; (case h => assumption); (case F => kct_strs))))
local macro_rules | `(tactic| walk_at "call builtin:dict.get") => `(tactic| (k_here; k_dflt (refine' dget_2S ?F ?h ?_; (case h => assumption); (case F => kct_strs)); (intro v9 hv9; refine Hold.out ?_)))
local macro_rules | `(tactic| walk_at "call builtin:dict.get") => `(tactic| (k_here; k_dflt (refine' dget_1L ?F ?h ?_; (case h => assumption); (case F => kct_strs)); (intro v9 hv9; (try dsimp only))))
local macro_rules | `(tactic| walk_at "call builtin:dict.get") => `(tactic| (k_here; k_dflt (refine' dget_1H ?F ?h ?_; (case h => assumption); (case F => kct_strs)); (intro v9 hv9; (try dsimp only))))
local macro_rules | `(tactic| walk_at "call builtin:isinstance") => `(tactic| (k_here; (with_reducible show wpAny _ _ (call _ [_, Value.ref 261]) _ _ _); k_dflt (refine' isi_ref ?F ?X ?v ?_; (case F => k_asm); (case X => k_asm); (case v => kbo_bools)); (intro tk; (try simp only [D.isi_ref]); (try (rename (D.isRef _ = false) => hx9; simp only [hx9])))))
section
local macro_rules | `(tactic| walk_at "pyIter ref") => `(tactic| ((with_reducible show wpAny _ _ (pyIter (Value.ref _)) (fun it s₂ => LoopAtV _ _ _ _ _ _ _ _ _ it s₂) _ _); refine Hold.out ?_))
local macro_rules | `(tactic| walk_at "InvEndN") => `(tactic| refine Hold.out ?_)
theorem fetch_ok {w : World} {mean : ExcName → Option Value} {mg mb : Str → Option Value} {dp un : Nat} {gd : Option (List Code)} {cn : Str} {cs : Scope} {a : Addr} {ccd : Value} {cl : List (Str × Addr)} {outer : List Env} {A₀ : Around} {base h₀ : Heap} {L : Addr} {m : Str → Option Value} {s : Shared} {Q E : Value → Shared → Prop}
    (B : Below A₀ base outer h₀) (F : Fr h₀ L s.heap m) (X : (hd.heap_1 w.params).In h₀) (T : Top view (looseW view looseN) mean mg mb h₀) (hk : cs.kind = .function)
    {sv v : Value} {T' : List (Int × D)} {d : D} {g : Heap}
    (N : News h₀ L s.heap []) (hg : ∀ b o, g.get? b = some o → s.heap.get? b = some o) (hsv : IsShelf w g sv T') (hv : IsD g v d)
    (hd : dp + 200 < recursionLimit) (hu : un + 200 < cLine)
    (ret : ∀ (r : Value) h' tk', Fr h₀ L h' m → But [] s.heap h' → IsD g r (fetchK T' 30 d) → Q (r) { s with heap := h', toks := tk' }) :
    wpAny (model PySem.Challenge.rw_nn0123_01.row.prog w) (ktrTop dp un gd cn cs L a ccd cl outer) (call (.ref 306) [sv, v]) Q E s := by
  revert X; k_fill; intro X
  obtain ⟨x, dx, es, n, t, rfl, h1s, h2s, h3, h4, h5, h6⟩ := hsv
  refine wpAny_call ?_
  k_dflt (refine' code_defH (binds := [(Str.ofString "self", .ref x), (Str.ofString "value", v)]) ?k1 ?k2 ?k3 ?k4 ?k5 ?kA ?kF ?kK ?k6 ?k7 ?k8 ?k9 ?kB ?_ ?c2 ?c3 ?c4 ?c5; (case kA => exact rfl); (case kF => exact rfl); (case kK => assumption); (case k1 => k_asm); (case k2 => k_asm); (case k3 => k_asm); (case k4 => k_asm); (case k5 => k_asm); (case k6 => k_is); (case k7 => k_is); (case k8 => ktr_room); (case k9 => exact BindsTo.of_eq rfl); (case c5 => decide); (case kB => exact locs rfl); (case c2 => exact rfl); (case c3 => exact rfl); (case c4 => exact rfl); k_whole)
  intro g1 L1 h1 FG1 F1 N1 B1 X1 T1 hB1 hS1 hL1 hZ1
  (try dsimp only)
  (try simp only [AllLt, and_true] at hL1)
  (try k_fold)
  have hk1 : ∀ b o, s.heap.get? b = some o → g1.get? b = some o := fun b o e => hB1 b o e (by simp)
  have hk2 : ∀ b o, g.get? b = some o → g1.get? b = some o := fun b o e => hk1 b o (hg b o e)
  have h1s := hk2 _ _ h1s
  have h2s := hk2 _ _ h2s
  k_steps
  unfold Hold
  (rename Fr _ _ _ _ => lF'); (rename News _ _ _ _ => lN'); (rename IsRange _ _ _ _ _ _ _ _ => rgX)
  with_unfolding_all refine' kst_range (σ := Value × D) (fun _ => _) (fun c => [(Str.ofString "here", c.1)]) (fun c => IsD g c.1 c.2) [Str.ofString "generation", Str.ofString "found", Str.ofString "here"] (fun pre c => fetchK T' (30 - pre.length) c.2 = fetchK T' 30 d) (v, d) (by rfl) rgX (by decide) (by rfl) lF' lN' ?kf ?kk ?kp ?_ ?_
  case kf => exact hv
  case kk => kst_all
  case kp => rfl
  · intro c pre k tt u h tk own hkq hpre hoff hfacts hP F2 N2
    obtain ⟨cv, cd⟩ := c
    dsimp only at hfacts hP F2 N2
    have hpre : pre.length < 30 := hpre
    cases hcr : cd.isRef with
    | false =>
      have hS := fetchK_non (T := T') hcr (30 - pre.length)
      rw [hS] at hP
      k_steps
      exact ret _ _ _ (by assumption) (But.ofFr hB1 (by assumption)) (hP ▸ hfacts)
    | true =>
      obtain ⟨nn, rfl⟩ : ∃ nn, cd = .p (.ref nn) := by
        cases cd with
        | p p => cases p with
          | ref n => exact ⟨n, rfl⟩
          | _ => cases hcr
        | _ => cases hcr
      obtain ⟨aa, dx2, es2, k2, t2, t2', rfl, b1, b2, b3, b4⟩ := hfacts
      have b1 := hk2 _ _ b1
      have b2 := hk2 _ _ b2
      have hlen : 30 - pre.length = (30 - (pre ++ [k]).length) + 1 := by rw [List.length_append, List.length_singleton]; omega
      rw [hlen] at hP
      k_steps
      rename _ ∨ _ => hv9
      unfold Hold
      rcases hv9 with ⟨e1, rfl⟩ | ⟨dd, e1, ⟨a3, x3, t3, rfl, hT3, hD3⟩⟩
      · have hS : fetchK T' 30 d = .p .none := by
          rw [← hP]; simp only [fetchK, hcr, if_true, step, e1]; exact fetchK_non rfl _
        k_steps
        exact ret _ _ _ (by assumption) (But.ofFr hB1 (by assumption)) (hS ▸ rfl)
      · have hS : fetchK T' (30 - (pre ++ [k]).length) dd = fetchK T' 30 d := by
          rw [← hP]; simp only [fetchK, hcr, if_true, step, e1]; rfl
        have hT3 := hT3.keeps hk2
        k_steps
        unfold Hold
        rename Fr g1 _ _ _ => Fz
        rename News g1 _ _ _ => Nz
        refine kst_end (x3, dd) Fz Nz (fun _ hp => nomatch hp) (fun p hp => List.mem_cons_of_mem _ hp) rfl hD3 (by kst_all) ?_ hS
        intro z hz hp hs
        have hs' := hs
        simp only [List.contains_cons, List.contains_nil, Bool.or_false, Bool.or_eq_false_iff, beq_eq_false_iff_ne] at hs'
        obtain ⟨c1, c2, c3⟩ := hs'
        simp only [kstB, if_neg c1, if_neg c2, if_neg c3, if_neg hz, hs, Bool.false_eq_true, if_false]
  · intro c u h tk hfacts hP F2 N2
    obtain ⟨cv, cd⟩ := c
    dsimp only at hfacts hP F2 N2
    have hP : fetchK T' 0 cd = fetchK T' 30 d := hP
    k_steps
    · rename cd.isRef = true => hc
      have hS : fetchK T' 30 d = .p .none := by rw [← hP]; simp only [fetchK, hc, if_true]
      exact ret _ _ _ (by assumption) (But.ofFr hB1 (by assumption)) (hS ▸ rfl)
    · have hS : fetchK T' 30 d = cd := by rw [← hP]; exact fetchK_non (by assumption) _
      exact ret _ _ _ (by assumption) (But.ofFr hB1 (by assumption)) (hS ▸ hfacts)
theorem law_fetched_ok {w : World} {mean : ExcName → Option Value} {mg mb : Str → Option Value} {dp un : Nat} {gd : Option (List Code)} {cn : Str} {cs : Scope} {a : Addr} {ccd : Value} {cl : List (Str × Addr)} {outer : List Env} {A₀ : Around} {base h₀ : Heap} {L : Addr} {m : Str → Option Value} {s : Shared} {Q E : Value → Shared → Prop}
    (B : Below A₀ base outer h₀) (F : Fr h₀ L s.heap m) (X : (hd.heap_1 w.params).In h₀) (T : Top view (looseW view looseN) mean mg mb h₀) (hk : cs.kind = .function)
    {t : Addr} {v : Value} {T' : List (Int × D)} {d : D} {g : Heap}
    (N : News h₀ L s.heap []) (hg : ∀ b o, g.get? b = some o → s.heap.get? b = some o) (htb : IsTabL w g t T') (hv : IsD g v d)
    (hd : dp + 200 < recursionLimit) (hu : un + 200 < cLine)
    (ret : ∀ (r : Value) h' tk', Fr h₀ L h' m → But [] s.heap h' → IsD g r (lawF T' 9 d) → Q (r) { s with heap := h', toks := tk' }) :
    wpAny (model PySem.Challenge.rw_nn0123_01.row.prog w) (ktrTop dp un gd cn cs L a ccd cl outer) (call (.ref 460) [.ref t, v]) Q E s := by
  revert X; k_fill; intro X
  refine wpAny_call ?_
  k_dflt (refine' code_defH (binds := [(Str.ofString "table", .ref t), (Str.ofString "value", v)]) ?k1 ?k2 ?k3 ?k4 ?k5 ?kA ?kF ?kK ?k6 ?k7 ?k8 ?k9 ?kB ?_ ?c2 ?c3 ?c4 ?c5; (case kA => exact rfl); (case kF => exact rfl); (case kK => assumption); (case k1 => k_asm); (case k2 => k_asm); (case k3 => k_asm); (case k4 => k_asm); (case k5 => k_asm); (case k6 => k_is); (case k7 => k_is); (case k8 => ktr_room); (case k9 => exact BindsTo.of_eq rfl); (case c5 => decide); (case kB => exact locs rfl); (case c2 => exact rfl); (case c3 => exact rfl); (case c4 => exact rfl); k_whole)
  intro g1 L1 h1 FG1 F1 N1 B1 X1 T1 hB1 hS1 hL1 hZ1
  (try dsimp only)
  (try simp only [AllLt, and_true] at hL1)
  (try k_fold)
  have hk1 : ∀ b o, s.heap.get? b = some o → g1.get? b = some o := fun b o e => hB1 b o e (by simp)
  have hk2 : ∀ b o, g.get? b = some o → g1.get? b = some o := fun b o e => hk1 b o (hg b o e)
  k_steps
  unfold Hold
  (rename Fr _ _ _ _ => lF'); (rename News _ _ _ _ => lN'); (rename IsRange _ _ _ _ _ _ _ _ => rgX)
  with_unfolding_all refine' kst_range (σ := Value × D) (fun _ => _) (fun c => [(Str.ofString "value", c.1)]) (fun c => IsD g c.1 c.2) [Str.ofString "value"] (fun pre c => lawF T' (9 - pre.length) c.2 = lawF T' 9 d) (v, d) (by rfl) rgX (by decide) (by rfl) lF' lN' ?kf ?kk ?kp ?_ ?_
  case kf => exact hv
  case kk => kst_all
  case kp => rfl
  · intro c pre k tt u h tk own hkq hpre hoff hfacts hP F2 N2
    obtain ⟨cv, cd⟩ := c
    dsimp only at hfacts hP F2 N2
    have hpre : pre.length < 9 := hpre
    have hlen : 9 - pre.length = (9 - (pre ++ [k]).length) + 1 := by rw [List.length_append, List.length_singleton]; omega
    rw [hlen] at hP
    cases hcr : cd.isRef with
    | false =>
      rw [lawF_non hcr] at hP
      k_steps
      exact ret _ _ _ (by assumption) (But.ofFr hB1 (by assumption)) (hP ▸ hfacts)
    | true =>
      obtain ⟨nn, rfl⟩ : ∃ nn, cd = .p (.ref nn) := by
        cases cd with
        | p p => cases p with
          | ref n => exact ⟨n, rfl⟩
          | _ => cases hcr
        | _ => cases hcr
      obtain ⟨aa, dx2, es2, k2, t2, t2', rfl, b1, b2, b3, b4⟩ := hfacts
      have b1 := hk2 _ _ b1
      have b2 := hk2 _ _ b2
      have hS : lawF T' (9 - (pre ++ [k]).length) (step T' (.p (.ref nn))) = lawF T' 9 d := by
        rw [← hP]; simp only [lawF, hcr, if_true]
      k_steps
      unfold Hold
      rename IsD g _ (step _ _) => hD3
      rename Fr g1 _ _ _ => Fz
      rename News g1 _ _ _ => Nz
      refine kst_end (_, _) Fz Nz (fun _ hp => nomatch hp) (fun p hp => hp) rfl hD3 (by kst_all) ?_ hS
      intro z hz hp hs
      have hs' := hs
      simp only [List.contains_cons, List.contains_nil, Bool.or_false, Bool.or_eq_false_iff, beq_eq_false_iff_ne] at hs'
      simp only [kstB, if_neg hs', if_neg hz, hs, Bool.false_eq_true, if_false]
  · intro c u h tk hfacts hP F2 N2
    obtain ⟨cv, cd⟩ := c
    dsimp only at hfacts hP F2 N2
    have hP : lawF T' 0 cd = lawF T' 9 d := hP
    k_steps
    exact ret _ _ _ (by assumption) (But.ofFr hB1 (by assumption)) (hP ▸ rfl)
end

set_option maxRecDepth 100000
set_option maxHeartbeats 8000000

theorem room_a {a k n R : Nat} (h : a + n < R) (e : Nat.ble k n = true) : a + k < R := Nat.lt_of_le_of_lt (Nat.add_le_add_left (Nat.le_of_ble_eq_true e) a) h
theorem room_b {a b k n R : Nat} (h : a + n < R) (e : Nat.ble (b + k) n = true) : a + b + k < R := by rw [Nat.add_assoc]; exact room_a h e
theorem room_c {a b c k n R : Nat} (h : a + n < R) (e : Nat.ble (b + (c + k)) n = true) : a + b + c + k < R := by rw [Nat.add_assoc, Nat.add_assoc]; exact room_a h e
local macro_rules | `(tactic| omega_side) => `(tactic| first | exact room_a (by assumption) (by rfl) | exact room_b (by assumption) (by rfl) | exact room_c (by assumption) (by rfl) | omega)
local macro_rules | `(tactic| ktr_room) => `(tactic| ((try simp only [depth_under_make, depth_under_kw, depth_in1, depth_deeper, depth_caller]); (try dsimp only [ktrTop]); omega_side))
local macro_rules | `(tactic| ktr_units) => `(tactic| ((try simp only [units_in1, units_deeper, Around.mark_units, units_caller]); (try dsimp only [ktrTop]); omega_side))
local macro_rules | `(tactic| walk_at "call ref") => `(tactic| refine holdAt 306 ?_)
theorem get_ok {w : World} {mean : ExcName → Option Value} {mg mb : Str → Option Value} {dp un : Nat} {gd : Option (List Code)} {cn : Str} {cs : Scope} {a : Addr} {ccd : Value} {cl : List (Str × Addr)} {outer : List Env} {A₀ : Around} {base h₀ : Heap} {L : Addr} {m : Str → Option Value} {s : Shared} {Q E : Value → Shared → Prop}
    (B : Below A₀ base outer h₀) (F : Fr h₀ L s.heap m) (X : (hd.heap_1 w.params).In h₀) (T : Top view (looseW view looseN) mean mg mb h₀) (hk : cs.kind = .function)
    {sv : Value} {t : Addr} {key : Str} {tk : Tok} {T' : List (Int × D)} {H : List (Str × D)} {g : Heap}
    (N : News h₀ L s.heap []) (hg : ∀ b o, g.get? b = some o → s.heap.get? b = some o) (hsv : IsShelf w g sv T') (hh : IsHead w g t H)
    (hd : dp + 210 < recursionLimit) (hu : un + 210 < cLine)
    (ret : ∀ (r : Value) h' tk', Fr h₀ L h' m → But [] s.heap h' → IsD g r (fetchK T' 30 (headAt H key)) → Q (r) { s with heap := h', toks := tk' }) :
    wpAny (model PySem.Challenge.rw_nn0123_01.row.prog w) (ktrTop dp un gd cn cs L a ccd cl outer) (call (.ref 313) [sv, .ref t, .str key tk]) Q E s := by
  revert X; k_fill; intro X
  have hsv' := hsv
  obtain ⟨x, dx, es, n, t', rfl, h1s, h2s, h3, h4, h5, h6⟩ := hsv
  refine wpAny_call ?_
  k_dflt (refine' code_defH (binds := [(Str.ofString "self", .ref x), (Str.ofString "head", .ref t), (Str.ofString "key", .str key tk)]) ?k1 ?k2 ?k3 ?k4 ?k5 ?kA ?kF ?kK ?k6 ?k7 ?k8 ?k9 ?kB ?_ ?c2 ?c3 ?c4 ?c5; (case kA => exact rfl); (case kF => exact rfl); (case kK => assumption); (case k1 => k_asm); (case k2 => k_asm); (case k3 => k_asm); (case k4 => k_asm); (case k5 => k_asm); (case k6 => k_is); (case k7 => k_is); (case k8 => ktr_room); (case k9 => exact BindsTo.of_eq rfl); (case c5 => decide); (case kB => exact locs rfl); (case c2 => exact rfl); (case c3 => exact rfl); (case c4 => exact rfl); k_whole)
  intro g1 L1 h1 FG1 F1 N1 B1 X1 T1 hB1 hS1 hL1 hZ1
  (try dsimp only)
  (try simp only [AllLt, and_true] at hL1)
  (try k_fold)
  have hk1 : ∀ b o, s.heap.get? b = some o → g1.get? b = some o := fun b o e => hB1 b o e (by simp)
  have hk2 : ∀ b o, g.get? b = some o → g1.get? b = some o := fun b o e => hk1 b o (hg b o e)
  have h1s := hk2 _ _ h1s
  have h2s := hk2 _ _ h2s
  (k_steps; repeat' ((refine Hold.mk ?_; first | ((with_reducible show wpAny _ _ (call (Value.ref 306) [_, _]) _ _ _); (refine' fetch_ok ?B ?F ?X ?T ?hk ?N ?hg ?hs ?hv ?hd ?hu ?_; (case B => k_asm); (case F => k_asm); (case X => k_asm); (case T => k_asm); (case hk => first | exact rfl | assumption); (case N => exact News.nil); (case hv => assumption); (case hs => assumption); (case hg => (first | exact Fr.keep (by assumption) | exact stays_trans (by assumption) (Fr.keep (by assumption)))); (case hd => ktr_room); (case hu => ktr_units)); intro zr9 zh9 ztk9 zF9 zhb9 zhr9; (have zN9 := newsStay (by assumption) zhb9); (try dsimp only))); k_steps))
  exact ret _ _ _ (by assumption) (But.ofFr hB1 (by assumption)) (by assumption)

set_option maxRecDepth 100000
set_option maxHeartbeats 8000000
open Builtin Builtin.ObjectAttr

noncomputable abbrev excO (t : Addr) (dd : Option Addr) : Obj := { cls := .ref 59, dict := dd, data := .fields #[.ref t, .none, .none, .none, .bool false, .none] }
noncomputable abbrev tupO (vs : List Value) : Obj := { cls := .type "tuple", data := .seq vs.toArray }
noncomputable abbrev excBm : List Value := [.ref 46, .type "Exception", .type "BaseException", .type "object"]

theorem exc_cls {w : World} {h : Heap} (X : (hd.heap_1 w.params).In h) : ∃ nm q bs hdct sn sub ab col dd k0 k1 k2 k3 k5,
    h.get? 59 = some (excClassObj nm q 59 58 bs excBm hdct sn sub ab col dd k0 k1 k2 k3 k5 "Exception.__new__") := by
  have e := X 59 _ rfl
  exact ⟨_, _, _, _, _, _, _, _, _, _, _, _, _, _, e⟩

theorem exc_type {w : World} {s : Shared} {x t0 : Addr} {dd : Option Addr} (hx : s.heap.get? x = some (excO t0 dd)) : Looks (model PySem.Challenge.rw_nn0123_01.row.prog w) s.heap (typeOf (.ref x)) (.ref 59) := (Looks.ld hx).andThen .now
theorem exc_init_check {w : World} {A : Around} {E : Value → Shared → Prop} {s : Shared} {e t0 : Addr} {dd : Option Addr} {vs : List Value} {Q : Unit → Shared → Prop} (X : (hd.heap_1 w.params).In s.heap) (he : s.heap.get? e = some (excO t0 dd)) (q : Q () s) :
    wpAny (model PySem.Challenge.rw_nn0123_01.row.prog w) A (checkBuiltinCall "Exception.__init__" ⟨.ref e :: vs, []⟩) Q E s := by
  have EF := PySem.F.excBase_Exception
  have own := EF.noStar
  obtain ⟨h, g, d, tk, os⟩ := s
  have l1 := exc_type (w := w) (s := ⟨h, g, d, tk, os⟩) he
  have l2 : Looks (model PySem.Challenge.rw_nn0123_01.row.prog w) h (isSubtype (.ref 59) (.type "Exception")) true := looks_mroIn X (by rfl)
  have l3 : Looks (model PySem.Challenge.rw_nn0123_01.row.prog w) h (isInstance (.ref e) (.type "Exception")) true := l1.andThen l2
  have h59 : h.get? 59 = some _ := X 59 _ rfl
  simp only [checkBuiltinCall, EF.initKind, EF.initSplit, EF.initRow]
  repeat (first | lk | wp_step)
  simp only [List.any_cons, show (Manifest.ParamKind.varPos == Manifest.ParamKind.varPos) = true from rfl, Bool.true_or, Bool.not_true, Bool.and_false, Bool.false_eq_true, if_false]
  repeat (first | exact q | lk | wp_step)

theorem exc_init_call {w : World} {A : Around} {E : Value → Shared → Prop} {s : Shared} {h₀ : Heap} {L e t0 : Addr} {m : Str → Option Value} {rest : List (Addr × Obj)} {dd : Option Addr} {vs : List Value} {Q : Value → Shared → Prop}
    (F : Fr h₀ L s.heap m) (X₀ : (hd.heap_1 w.params).In h₀) (N : News h₀ L s.heap ((e, excO t0 dd) :: rest)) (hr : ∀ p ∈ rest, p.1 ≠ e) (hz : vs.length ≤ 100)
    (q : ∀ t h', Fr h₀ L h' m → News h₀ L h' ((e, excO t dd) :: (t, tupO vs) :: rest) → AllLt t ((e, excO t0 dd) :: rest) → Q .none { s with heap := h' }) :
    wpAny (model PySem.Challenge.rw_nn0123_01.row.prog w) A (call (.builtin "Exception.__init__") (.ref e :: vs)) Q E s := by
  have X := X₀.keeps F.keep
  have he := (N _ (.head _)).1
  obtain ⟨hh, g, d, tk, os⟩ := s
  refine wpAny_call (codeAny_call_builtin PySem.F.excBase_Exception.init.plain PySem.F.excBase_Exception.initEntry (exc_init_check (s := ⟨hh, g, d, tk, os⟩) X he ?_))
  have hlt : e ≠ hh.objs.size := Nat.ne_of_lt (Heap.lt_size he)
  have N2 := N.push F (tupO vs)
  have F2 := F.push (tupO vs)
  obtain ⟨U1, U2⟩ := news_upd (f := Obj.mapFields fun xs => xs.setIfInBounds 0 (.ref hh.objs.size)) (pre := [(hh.objs.size, tupO vs)]) (post := rest) (o' := excO hh.objs.size dd) F2 N2 (by intro p hp; rw [List.mem_singleton.mp hp]; exact Ne.symm hlt) hr rfl rfl
  have fin := q hh.objs.size _ U1 (fun p hp => U2 p (by
    rcases List.mem_cons.mp hp with rfl | hp
    · exact .tail _ (.head _)
    · rcases List.mem_cons.mp hp with rfl | hp
      · exact .head _
      · exact .tail _ (.tail _ hp))) (allLt_of fun p hp => Heap.lt_size (N p hp).1)
  have hz' : vs.length ≤ sizeLine := by rw [sizeLine_eq]; omega
  wp_walk
  exact fin

theorem exc_refuse (self : Value) : refuseLoop self "__setattr__" (.ref 59 :: excBm) = pure () := by
  rw [refuseLoop_ref, refuseLoop_ref]
  kernel_rfl

theorem osa_exc {w : World} {A : Around} {R : Result → Shared → Prop} {s : Shared} {x t0 : Addr} {dd : Option Addr} {name : Str} {tk : Tok} {v : Value} (X : (hd.heap_1 w.params).In s.heap) (hx : s.heap.get? x = some (excO t0 dd)) (ht : findIn (hd.heap_1 w.params) (.ref 59) name = some none)
    (h : ∀ b, wpAny (model PySem.Challenge.rw_nn0123_01.row.prog w) A.in1 (storeInOwnDict (.ref x) (.ref 59) (.str name tk) name v b)
      (fun fin s' => match fin with | .done f => R (.ok f) s' | .again c' => c'.quiet = true ∧ codeAny (model PySem.Challenge.rw_nn0123_01.row.prog w) A c' R s') (fun e s' => R (.error e) s') s) :
    codeAny (model PySem.Challenge.rw_nn0123_01.row.prog w) A (.call (.builtin "object.__setattr__") ⟨[.ref x, .str name tk, v], []⟩) R s := by
  have SF := PySem.F.store_object
  have hT := exc_type (w := w) hx
  have hm : Looks (model PySem.Challenge.rw_nn0123_01.row.prog w) s.heap (mroOf (.ref 59)) (.ref 59 :: excBm) := (looks_clsIn X (show clsIn (hd.heap_1 w.params) 59 = some _ from rfl)).andThen .now
  have sub : Looks (model PySem.Challenge.rw_nn0123_01.row.prog w) s.heap (isInstance (.ref x) (.type "object")) true := hT.andThen (looks_mroIn X (by rfl))
  refine codeAny_call_builtin SF.slot.plain SF.entry (@check_slot (model PySem.Challenge.rw_nn0123_01.row.prog w) _ _ s "object.__setattr__" "object" "__setattr__" (.ref x) [.str name tk, v] [] _ SF.kind SF.split sub (SF.args (.ref x) (.str name tk) v) ?_)
  rw [osa_eq, refuse_eq]
  refine wpAny_bind (wpAny_bind (hT.here (wpAny_bind (hm.here ?_))))
  rw [exc_refuse]
  refine wpAny_pure (wpAny_bind (hT.here (wpAny_bind ((looks_findIn X ht).here (wpAny_bind (wpAny_pure ?_))))))
  exact h _

theorem setA_exc {w : World} {A : Around} {E : Value → Shared → Prop} {s : Shared} {x t0 : Addr} {dd : Option Addr} {name : Str} {v : Value} {Q : Unit → Shared → Prop} (X : (hd.heap_1 w.params).In s.heap) (hx : s.heap.get? x = some (excO t0 dd))
    (h : codeAny (model PySem.Challenge.rw_nn0123_01.row.prog w) A (.call (.builtin "object.__setattr__") ⟨[.ref x, .str name s.toks, v], []⟩) (fun r s' => match r with | .ok (.ret _) => Q () s' | .ok _ => False | .error e => E e s') { s with toks := s.toks + 1 }) :
    wpAny (model PySem.Challenge.rw_nn0123_01.row.prog w) A (setAttr (.ref x) name v) Q E s := by
  have hs : findIn (hd.heap_1 w.params) (.ref 59) "__setattr__" = some (some (.builtin "object.__setattr__")) := by rfl
  refine wpAny_bind (wpAny_mkText (wpAny_bind (wpAny_bind (wpAny_bind (exc_type (w := w) hx _ _ _ _ (fun _ _ e => e) (looks_findIn X hs _ _ _ _ (fun _ _ e => e) (wpAny_holding ?_)))))))
  rw [PySem.F.store_object.slot.bind]
  refine wpAny_bind (wpAny_pure (wpAny_bind (wpAny_call (codeAny_mono h fun r s' z => ?_))))
  rcases r with e | (v | _ | _ | _) <;> first | exact z | exact wpAny_pure (wpAny_pure z)

theorem set1_exc {w : World} {A : Around} {E : Value → Shared → Prop} {s : Shared} {h₀ : Heap} {L e t0 : Addr} {m : Str → Option Value} {rest : List (Addr × Obj)} {name : Str} {v : Value} {Q : Unit → Shared → Prop}
    (F : Fr h₀ L s.heap m) (X₀ : (hd.heap_1 w.params).In h₀) (N : News h₀ L s.heap ((e, excO t0 none) :: rest)) (hr : ∀ p ∈ rest, p.1 ≠ e) (ht : findIn (hd.heap_1 w.params) (.ref 59) name = some none)
    (q : ∀ dx es n tk h', es.any (·.refKey) = false → es.length ≤ 10 → Fr h₀ L h' m → News h₀ L h' ((e, excO t0 (some dx)) :: (dx, dictOf es n) :: rest) → AllLt dx ((e, excO t0 none) :: rest) → Q () { s with heap := h', toks := tk }) :
    wpAny (model PySem.Challenge.rw_nn0123_01.row.prog w) A (setAttr (.ref e) name v) Q E s := by
  have X := X₀.keeps F.keep
  have he := (N _ (.head _)).1
  refine setA_exc X he (osa_exc X he ht fun b => ?_)
  obtain ⟨hh, g, d, tk, os⟩ := s
  have h59 := X 59 _ rfl
  have hlt : e ≠ hh.objs.size := Nat.ne_of_lt (Heap.lt_size he)
  have N2 := N.push F (dictOf [] 0)
  have F2 := F.push (dictOf [] 0)
  obtain ⟨U1, U2⟩ := news_upd (f := fun o => { o with dict := some hh.objs.size }) (pre := [(hh.objs.size, dictOf [] 0)]) (post := rest) (o' := excO t0 (some hh.objs.size)) F2 N2 (by intro p hp; rw [List.mem_singleton.mp hp]; exact Ne.symm hlt) hr rfl rfl
  have D := (U2 _ (.head _)).1
  wp_walk using wpAny_load h59, wpAny_askSetting, wpAny_loadPart D
  have h2 : ∀ p ∈ (e, excO t0 (some hh.objs.size)) :: rest, p.1 ≠ hh.objs.size := fun p hp => by
    rcases List.mem_cons.mp hp with rfl | hp
    · exact hlt
    · exact Nat.ne_of_lt (Heap.lt_size (N p (.tail _ hp)).1)
  have V := fun f o' e hf => news_upd (f := f) (o' := o') (pre := []) U1 U2 (fun p hp => nomatch hp) h2 e hf
  have V1 := fun hsh key => V (Obj.putName name hsh key v) _ (putName_dict name hsh key v [] 0) rfl
  refine' q hh.objs.size _ _ _ _ ?a1 ?a2 (V1 _ _).1 ?a3 (allLt_of fun p hp => Heap.lt_size (N p hp).1)
  case a3 =>
    refine' fun p hp => (V1 _ _).2 p ?_
    rcases List.mem_cons.mp hp with rfl | hp
    · exact .tail _ (.head _)
    · rcases List.mem_cons.mp hp with rfl | hp
      · exact .head _
      · exact .tail _ (.tail _ hp)
  case a1 => rfl
  case a2 => exact Nat.le_of_ble_eq_true rfl

theorem set2_exc {w : World} {A : Around} {E : Value → Shared → Prop} {s : Shared} {h₀ : Heap} {L e t0 dx : Addr} {m : Str → Option Value} {rest : List (Addr × Obj)} {name : Str} {v : Value} {es : List DictEntry} {n : Nat} {Q : Unit → Shared → Prop}
    (F : Fr h₀ L s.heap m) (X₀ : (hd.heap_1 w.params).In h₀) (N : News h₀ L s.heap ((e, excO t0 (some dx)) :: (dx, dictOf es n) :: rest)) (hed : @Ne Nat e dx) (hr : ∀ p ∈ rest, p.1 ≠ dx) (ht : findIn (hd.heap_1 w.params) (.ref 59) name = some none)
    (hk : es.any (·.refKey) = false) (hl : es.length ≤ 10)
    (q : ∀ o tk h', Fr h₀ L h' m → News h₀ L h' ((e, excO t0 (some dx)) :: (dx, o) :: rest) → Q () { s with heap := h', toks := tk }) :
    wpAny (model PySem.Challenge.rw_nn0123_01.row.prog w) A (setAttr (.ref e) name v) Q E s := by
  have X := X₀.keeps F.keep
  have he := (N _ (.head _)).1
  refine setA_exc X he (osa_exc X he ht fun b => ?_)
  obtain ⟨hh, g, d, tk, os⟩ := s
  have h59 := X 59 _ rfl
  have D := (N _ (.tail _ (.head _))).1
  have hka : (es.toArray.any fun x => x.refKey) = false := by rw [List.any_toArray]; exact hk
  have V := fun f o' e hf => news_upd (f := f) (o' := o') (pre := [(_, excO t0 (some dx))]) F N (fun p hp => by rw [List.mem_singleton.mp hp]; exact hed) hr e hf
  wp_walk using wpAny_load h59, wpAny_askSetting, wpAny_loadPart D
  have c : (!es.toArray.any (·.key.isStr name) && es.toArray.any (·.refKey)) = false := by rw [hka, Bool.and_false]
  rw [aRefKeyMayBeTheName_at, c]
  have V1 := fun hsh key => V (Obj.putName name hsh key v) _ (putName_dict name hsh key v es n) rfl
  have hz : ∀ hsh key, (putL name hsh key v es).length ≤ 20 := fun hsh key => by
    have : ∀ (l : List DictEntry), (putL name hsh key v l).length ≤ l.length + 1 := by
      intro l
      induction l with
      | nil => exact Nat.le_refl _
      | cons a r ih => unfold putL; split <;> simp only [List.length_cons] <;> omega
    exact Nat.le_trans (this es) (by omega)
  refine wpAny_updatePart D ?_
  refine wpAny_bind (wpAny_lookBehind ((V1 _ _).2 _ (.tail _ (.head _))).1 (pastItsLine_dict (by rw [List.size_toArray, sizeLine_eq]; exact Nat.le_trans (hz _ _) (by decide))) ?_)
  exact wpAny_pure (q _ _ _ (V1 _ _).1 (V1 _ _).2)

theorem type_exc : typeOf (.type "Exception") = pure (.type "type") := by kernel_rfl
local macro_rules | `(tactic| walk_at "getMethod type:Exception") => `(tactic| (k_here; refine' method_type ?F ?X ?m (by decide +kernel) ?e ?h ?_; (case F => k_asm); (case X => k_asm); (case m => exact type_exc); (case e => k_dflt k_is); (case h => k_handed)))
local macro_rules | `(tactic| walk_at "call builtin:Exception.__init__") => `(tactic| (k_here; k_dflt (refine' exc_init_call ?F ?X ?N ?hr ?hz ?_; (case N => k_asm); (case F => k_asm); (case X => k_asm); (case hr => k_all); (case hz => exact Nat.le_of_ble_eq_true rfl)); (intro t9 h' F' N' l1; (try simp only [AllLt, and_true] at l1))))
local macro_rules | `(tactic| walk_at "setAttr ref") => `(tactic| (k_here; k_dflt (refine' set1_exc ?F ?X ?N ?hr ?ht ?_; (case N => k_asm); (case F => k_asm); (case X => k_asm); (case hr => k_all); (case ht => k_is)); (intro dx9 es9 n9 tk9 h' hk9 hl9 F' N' l1; (try simp only [AllLt, and_true] at l1))))
local macro_rules | `(tactic| walk_at "setAttr ref") => `(tactic| (k_here; k_dflt (refine' set2_exc ?F ?X ?N ?he ?hr ?ht ?hk ?hl ?_; (case N => k_asm); (case F => k_asm); (case X => k_asm); (case he => omega); (case hr => k_all); (case ht => k_is); (case hk => assumption); (case hl => assumption)); (intro o9 tk9 h' F' N')))
theorem perr_init {w : World} {mean : ExcName → Option Value} {mg mb : Str → Option Value} {dp un : Nat} {gd : Option (List Code)} {cn : Str} {cs : Scope} {a : Addr} {ccd : Value} {cl : List (Str × Addr)} {outer : List Env} {A₀ : Around} {base h₀ : Heap} {L : Addr} {m : Str → Option Value} {s : Shared} {Q E : Value → Shared → Prop}
    (B : Below A₀ base outer h₀) (F : Fr h₀ L s.heap m) (X : (hd.heap_1 w.params).In h₀) (T : Top view (looseW view looseN) mean mg mb h₀) (hk : cs.kind = .function)
    {e t0 : Addr} {x : Str} {tk : Tok}
    (N : News h₀ L s.heap [(e, excO t0 none)]) 
    (hd : dp + 200 < recursionLimit) (hu : un + 200 < cLine)
    (ret : ∀  h' tk', Fr h₀ L h' m → (∃ t dx, h'.get? e = some (excO t (some dx)) ∧ h'.get? t = some (tupO [.str x tk]) ∧ s.heap.get? t = none) → But [e] s.heap h' → Q (Value.none) { s with heap := h', toks := tk' }) :
    wpAny (model PySem.Challenge.rw_nn0123_01.row.prog w) (ktrTop dp un gd cn cs L a ccd cl outer) (call (.ref 36) [.ref e, .str x tk]) Q E s := by
  revert X; k_fill; intro X
  refine wpAny_call ?_
  k_dflt (refine' code_defH ?k1 ?k2 ?k3 ?k4 ?k5 ?kA ?kF ?kK ?k6 ?k7 ?k8 ?k9 ?kB ?_ ?c2 ?c3 ?c4 ?c5; (case kA => exact rfl); (case kF => exact rfl); (case kK => assumption); (case k1 => k_asm); (case k2 => k_asm); (case k3 => k_asm); (case k4 => k_asm); (case k5 => k_asm); (case k6 => k_is); (case k7 => k_is); (case k8 => ktr_room); (case k9 => exact binds_K (by k_in) rfl (by k_is) rfl rfl rfl); (case c5 => decide); (case kB => exact locs rfl); (case c2 => exact rfl); (case c3 => exact rfl); (case c4 => exact rfl); k_whole)
  intro g1 L1 h1 FG1 F1 N1 B1 X1 T1 hB1 hS1 hL1 hZ1
  (try dsimp only)
  (try simp only [AllLt, and_true] at hL1)
  (try k_fold)
  k_steps
  rename News h₀ _ _ _ => kN
  rename News g1 _ _ _ => kM
  refine ret _ _ (by assumption) ⟨_, _, (kN _ (.head _)).1, (kN _ (.tail _ (.tail _ (.head _)))).1, ?_⟩ (But.ofFr hB1 (by assumption))
  cases hq : s.heap.get? _ with
  | none => rfl
  | some o =>
    have := hB1 _ _ hq (fun hm => by
      have : @Eq Nat _ _ := List.mem_singleton.mp hm
      dsimp only at this
      omega)
    rw [(kM _ (.tail _ (.tail _ (.head _)))).2.2] at this; cases this

set_option maxRecDepth 100000
set_option maxHeartbeats 8000000

theorem cross_new_ok {w : World} {h : Heap} (X : (hd.heap_1 w.params).In h) (v : Value) : Looks (model PySem.Challenge.rw_nn0123_01.row.prog w) h (checkBuiltinCall "Exception.__new__" ⟨[.ref 59, v], []⟩) () :=
  Looks.of_peek X (by kernel_rfl)
theorem cross_here {w : World} {h : Heap} (X : (hd.heap_1 w.params).In h) : Looks (model PySem.Challenge.rw_nn0123_01.row.prog w) h (Bind.madeHere "BaseException.__new__" (.ref 59)) () :=
  Looks.of_peek X (by kernel_rfl)
theorem cross_type {w : World} {h : Heap} (X : (hd.heap_1 w.params).In h) : Looks (model PySem.Challenge.rw_nn0123_01.row.prog w) h (isType (.ref 59)) true :=
  Looks.of_peek X (by kernel_rfl)
theorem cross_new {w : World} {A : Around} {R : Result → Shared → Prop} {s : Shared} {rest : List Value} (X : (hd.heap_1 w.params).In s.heap) (small : rest.length ≤ 100)
    (q : R (.ok (.ret (.ref (s.heap.objs.size + 1)))) { s with heap := (s.heap.push (tupO rest)).push (excO s.heap.objs.size none) }) :
    codeAny (model PySem.Challenge.rw_nn0123_01.row.prog w) A (.builtin "Exception.__new__" ⟨.ref 59 :: rest, []⟩) R s := by
  obtain ⟨h, g, d, t, os⟩ := s
  have EF := PySem.F.excBase_Exception
  have ends := EF.ends
  have l1 := cross_type (w := w) X
  have l2 : Looks (model PySem.Challenge.rw_nn0123_01.row.prog w) h (isSubtype (.ref 59) (.type "Exception")) true := looks_mroIn X (by rfl)
  have l3 := cross_here (w := w) X
  have l4 : Looks (model PySem.Challenge.rw_nn0123_01.row.prog w) h (isSubtype (.ref 59) (.type "AttributeError")) false := looks_mroIn X (by rfl)
  have l5 : Looks (model PySem.Challenge.rw_nn0123_01.row.prog w) h (isSubtype (.ref 59) (.type "NameError")) false := looks_mroIn X (by rfl)
  have h59 := Heap.get?_push_of_some (excO h.objs.size none) (Heap.get?_push_of_some (tupO rest) (X 59 _ rfl))
  have z : rest.length ≤ sizeLine := by rw [sizeLine_eq]; omega
  refine codeAny_builtinAt EF.entry (PySem.wpAt_bind ?_)
  refine PySem.wpAt_bind (PySem.wpAt_stack fun _ _ => PySem.wpAt_of_wpAny ?_)
  wp_walk
  refine PySem.wpAt_of_wpAny ?_
  rw [EF.owner]
  repeat (first | lk | wp_step)
  show R _ _
  rw [Heap.size_push]
  exact q

theorem cross_made {w : World} {mean : ExcName → Option Value} {mg mb : Str → Option Value} {dp un : Nat} {gd : Option (List Code)} {cn : Str} {cs : Scope} {a : Addr} {ccd : Value} {cl : List (Str × Addr)} {outer : List Env} {A₀ : Around} {base h₀ : Heap} {L : Addr} {m : Str → Option Value} {s : Shared} {Q E : Value → Shared → Prop}
    (B : Below A₀ base outer h₀) (F : Fr h₀ L s.heap m) (X₀ : (hd.heap_1 w.params).In h₀) (T : Top view (looseW view looseN) mean mg mb h₀) (hk : cs.kind = .function) {x : Str} {tk : Tok}
    (hd : dp + 210 < recursionLimit) (hu : un + 210 < cLine)
    (ret : ∀ e t dd h' tk', s.heap.get? e = none → h'.get? e = some (excO t dd) → s.heap.get? t = none → h'.get? t = some (tupO [.str x tk]) → But [] s.heap h' → Q (.ref e) { s with heap := h', toks := tk' }) :
    wpAny (model PySem.Challenge.rw_nn0123_01.row.prog w) (ktrTop dp un gd cn cs L a ccd cl outer) (call (.ref 59) [.str x tk]) Q E s := by
  have X := X₀.keeps F.keep
  obtain ⟨nm, qq, bs, hdct, sn, sub, ab, col, dd', k0, k1, k2, k3, k5, hC⟩ := exc_cls X
  obtain ⟨hh, g, d, tt, os⟩ := s
  have f1 := tc_lookup
  have f2 := tc_bind (.ref 59)
  have hT : (⟨hh, g, d, tt, os⟩ : Shared).TypeIs (.ref 59) "type" := ⟨_, hC, rfl⟩
  refine wpAny_call (codeAny_of_tree ?_)
  show wpAny _ _ (callAny (.ref 59) _) _ _ _
  repeat (any_goals (first | assumption | with_reducible refine wpAny_loadPart_at hC ?_ | wp_step))
  refine ⟨rfl, ?_⟩
  refine codeAny_call_builtin_at (Code.quiet_builtin _ (by decide +kernel)) entry_typeCall (wpAny_check_type_call_sub hC ?_)
  repeat (first | with_reducible refine wpAny_loadPart_at hC ?_ | with_reducible refine wpAny_madeBy_exc hC ?_ | wp_step)
  refine codeAny_call_builtin_code (Code.quiet_builtin _ PySem.F.excBase_Exception.quiet) ((cross_new_ok X (.str x tk)).here ?_)
  refine cross_new X (by simp) ?_
  show wpAny _ _ _ _ _ _
  have F1 := F.push (tupO [.str x tk])
  have N1 := (News.nil (h₀ := h₀) (L := L) (h := hh)).push F (tupO [.str x tk])
  have F2 := F1.push (excO hh.objs.size none)
  have N2 := N1.push F1 (excO hh.objs.size none)
  have X2 := X₀.keeps F2.keep
  rw [Heap.size_push] at N2
  have he := (N2 _ (.head _)).1
  have hT2 := exc_type (w := w) (s := ⟨_, g, d, tt, os⟩) he
  have sub : Looks (model PySem.Challenge.rw_nn0123_01.row.prog w) _ (isInstance (.ref (hh.objs.size + 1)) (.ref 59)) true := hT2.andThen (looks_mroIn X2 (by rfl))
  have I : InstAt _ (hh.objs.size + 1) (excO hh.objs.size none) 59 none := ⟨he, rfl, rfl, trivial⟩
  refine wpAny_bind (sub.here ?_)
  simp only [Bool.not_true, Bool.false_eq_true, if_false]
  refine wpAny_bind (wpAny_holding (special_fn X2 I (by rfl : findIn (Mine.hd.heap_1 w.params) (.ref 59) "__init__" = some (some (.ref 36))) (by rfl) ?_))
  have hfresh : hh.get? (hh.objs.size + 1) = none := Heap.get?_none_of_le (Nat.le_succ _)
  have old : ∀ b o, hh.get? b = some o → ((hh.push (tupO [.str x tk])).push (excO hh.objs.size none)).get? b = some o := fun b o e => Heap.get?_push_of_some _ (Heap.get?_push_of_some _ e)
  have N3 : News h₀ L _ [(hh.objs.size + 1, excO hh.objs.size none)] := fun p hp => N2 p (by rw [List.mem_singleton.mp hp]; exact .head _)
  with_unfolding_all refine' perr_init B F2 X₀ T hk N3 ?hd ?hu ?_
  case hd => (with_unfolding_all show dp + 1 + 200 < recursionLimit); omega
  case hu => (with_unfolding_all show un + 1 + 200 < cLine); omega
  intro h' tk' F' ⟨t, dx, he', ht', htn⟩ hB'
  wp_walk
  have htn' : hh.get? t = none := by
    cases hq : hh.get? t with
    | none => rfl
    | some o => have z := (old t o hq).symm.trans htn; cases z
  exact ret _ _ _ _ _ hfresh he' htn' ht' fun b o e _ => hB' b o (old b o e) fun hm => by
    rw [List.mem_singleton.mp hm] at e
    have e' : hh.get? (hh.objs.size + 1) = some o := e
    rw [hfresh] at e'; cases e'

set_option maxRecDepth 100000
set_option maxHeartbeats 8000000

noncomputable def Fl (l : List Env) (h : Heap) (e : Addr) (h' : Heap) : Prop := ∃ B t vs, (∀ b o, h.get? b = some o → b ∉ l.filterMap (·.frame) → B.get? b = some o) ∧ Heap.FlyingW B l e (.ref 59) (.ref t) h' ∧ B.get? t = none ∧ h'.TupAt t vs ∧ h.UpToSlots h'

section
variable {M : Model} {A : Around} {E : Value → Shared → Prop} {s' : Shared} {base g h hc : Heap} {outer : List Env} {L a e t : Addr} {dd : Option Addr} {vs : List Value} {m : Str → Option Value} {name : Str} {scope : Scope} {cd : Value} {Q : Unit → Shared → Prop}
theorem leave_first (K : Below A base outer g) (F : Fr g L h m) (hB : But [] h s'.heap) (he : s'.heap.get? e = some (excO t dd)) (hen : h.get? e = none) (htn : h.get? t = none) (ht : s'.heap.get? t = some (tupO vs)) (hc1 : ∀ b o, hc.get? b = some o → g.get? b = some o)
    (hQ : ∀ h'', Fl outer hc e h'' → Q () { s' with heap := h'' }) (hk : scope.kind = .function := by rfl) :
    wpAny M (A.deeper (envOf name scope L a cd)) (leaving (envOf name scope L a cd) (.ref e)) Q E s' := by
  have K' := K.push (name := name) (a := a) (cd := cd) F hk
  have hin : ∀ env ∈ (envOf name scope L a cd :: outer), ∀ b, env.frame = some b → b ∈ (envOf name scope L a cd :: outer).filterMap (·.frame) := fun env he b hb => List.mem_filterMap.mpr ⟨env, he, hb⟩
  have fr : s'.heap.FunFrames (hideAll h ((envOf name scope L a cd :: outer).filterMap (·.frame))) (envOf name scope L a cd :: outer) := by
    have z := funFrames_hide K'.frames hin
    exact z.of_keeps fun b o e _ => ⟨o, hB.stays _ _ e, rfl⟩
  have no : ∀ x, h.get? x = none → (hideAll h ((envOf name scope L a cd :: outer).filterMap (·.frame))).get? x = none := fun x hx => by
    cases q : (hideAll h ((envOf name scope L a cd :: outer).filterMap (·.frame))).get? x with
    | none => rfl
    | some o => rw [of_hideAll _ q] at hx; cases hx
  refine wpAny_leaving_firstW K'.stack fr rfl he (fun b o q => hB.stays _ _ (of_hideAll _ q)) (no e hen) rfl rfl rfl fun h' hL => ?_
  obtain ⟨k1, ⟨_, _, k2⟩, k3, k4⟩ := hL
  refine hQ h' ⟨_, t, vs, fun b o q nm => hideAll_get _ (F.keep b o (hc1 b o q)) fun hm => ?_, ⟨k1, no e hen, k2, k3⟩, no t htn, ?_, ?_⟩
  · rcases kts_mem hm with z | z
    · have := hc1 b o q; rw [z, kts_self F] at this; cases this
    · exact nm z
  · obtain ⟨sl, z⟩ := k4 _ _ ht (fun vs q => by cases q)
    exact ⟨_, _, z, rfl, rfl⟩
  · exact fun b o q hd => k4 b o (hB.stays _ _ (F.keep b o (hc1 b o q))) hd
theorem leave_next (K : Below A base outer g) (F : Fr g L h m) (fl : Fl (envOf name scope L a cd :: outer) h e s'.heap) (hc1 : ∀ b o, hc.get? b = some o → g.get? b = some o)
    (hQ : ∀ h'', Fl outer hc e h'' → Q () { s' with heap := h'' }) :
    wpAny M (A.deeper (envOf name scope L a cd)) (leaving (envOf name scope L a cd) (.ref e)) Q E s' := by
  obtain ⟨B, t, vs, hBG, hfl, hnt, htup, hsm⟩ := fl
  exact wpAny_leaves_onW (Around.frames_deeper K.stack) rfl hfl fun h' x1 x2 => hQ h' ⟨B, t, vs, fun b o q nm => hBG b o (F.keep b o (hc1 b o q)) (fun hm => by
      rcases kts_mem hm with z | z
      · have := hc1 b o q; rw [z, kts_self F] at this; cases this
      · exact nm z), x1, hnt, htup.of_slots x2, ((Heap.UpToSlots.of_keeps hc1).trans ((Heap.UpToSlots.of_keeps F.keep).trans hsm)).trans x2⟩
end

set_option maxRecDepth 100000
set_option maxHeartbeats 8000000

section
variable {prog : Program} {w : World} {A : Around} {E : Value → Shared → Prop} {s : Shared} {env : Env} {h₀ : Heap} {x : Str} {body : List Stmt} {Q : Flow → Shared → Prop}
theorem low_off {h : Heap} {L l : Addr} {m : Str → Option Value} (F : Fr h₀ L h m) (low : l < h₀.objs.size) : L ∉ [h.objs.size, l] := by
  intro q
  rcases List.mem_cons.mp q with q | q
  · exact Nat.ne_of_lt F.ns.lt q
  · exact Nat.ne_of_gt (Nat.lt_of_lt_of_le low F.above) (List.mem_singleton.mp q)
theorem news_off {h : Heap} {L l : Addr} {o : Obj} {news : List (Addr × Obj)} (N : News h₀ L h news) (e : h₀.get? l = some o) : ∀ p ∈ news, p.1 ∉ [h.objs.size, l] := by
  intro p hp q
  obtain ⟨here, _, fresh⟩ := N p hp
  rcases List.mem_cons.mp q with q | q
  · exact Nat.ne_of_lt (Heap.lt_size here) q
  · rw [List.mem_singleton.mp q, e] at fresh
    cases fresh
theorem parted {vs : List Value} {i : Nat} {v : Value} (e : vs[i]? = some v) : vs.take (i + 1) = vs.take i ++ [v] ∧ vs = vs.take i ++ v :: vs.drop (i + 1) := by
  have a : vs.take (i + 1) = vs.take i ++ [v] := by simp [List.take_add_one, e]
  refine ⟨a, ?_⟩
  have b := (List.take_append_drop (i + 1) vs).symm
  rwa [a, List.append_assoc] at b
theorem kst_vals {σ : Type} {l : Addr} {vs : List Value} {m₀ : Str → Option Value} (Led : σ → List (Addr × Obj)) (ps : σ → List (Str × Value)) (Facts : σ → Prop) (stored : List Str) (P : List Value → σ → Prop) (c₀ : σ)
    (hh : A.handled = none) (hl : h₀.IsList l vs.toArray) (F : Fr h₀ env.locals s.heap m₀) (N : News h₀ env.locals s.heap (Led c₀)) (hf : Facts c₀) (hk : ∀ p ∈ ps c₀, m₀ p.1 = some p.2) (hp : P [] c₀)
    (turn : ∀ (c : σ) pre post v (u : Str → Option Value) h tk own, vs = pre ++ v :: post → OwnOff own ((Led c₀).map (·.1)) → Facts c → P pre c →
      Fr h₀ env.locals h (fun y => if y = x then some v else kstB (fun z => if stored.contains z then u z else m₀ z) (ps c) y) → News h₀ env.locals h (Led c ++ own) →
      wpAny (model prog w) A (execs body env) (InvPostN h₀ env.locals (fun m' nx => ∃ c : σ, nx = Led c ∧ Facts c ∧ (∀ p ∈ ps c, m' p.1 = some p.2) ∧ (∀ z, z ≠ x → (∀ p ∈ ps c, z ≠ p.1) → stored.contains z = false → m' z = m₀ z) ∧ P (pre ++ [v]) c) own ((Led c₀).map (·.1)) { s with heap := h, toks := tk } Q) E { s with heap := h, toks := tk })
    (done : ∀ (c : σ) (u : Str → Option Value) h tk, Facts c → P vs c → Fr h₀ env.locals h (fun y => if y = x then u y else kstB (fun z => if stored.contains z then u z else m₀ z) (ps c) y) → News h₀ env.locals h (Led c) → Q .next { s with heap := h, toks := tk }) :
    wpAny (model prog w) A (pyIter (.ref l)) (fun it s₂ => LoopAtV prog w A h₀ env x body Q E it s₂) E s := by
  obtain ⟨ol, hol, _⟩ := id hl
  have low : l < h₀.objs.size := Heap.lt_size hol
  have here : s.heap.IsList l vs.toArray := hl.at (F.keep l)
  have off := low_off F low
  have offN := news_off N hol
  have W := Walks.list (prog := prog) (w := w) hh s.heap.objs.size l (Nat.ne_of_lt (Nat.lt_trans (Nat.lt_of_lt_of_le low F.above) F.ns.lt)) vs.toArray
  rw [List.size_toArray] at W
  refine wpAny_pyIter_list here (loop_invN (fun i m nx => ∃ c : σ, nx = Led c ∧ Facts c ∧ (∀ p ∈ ps c, m p.1 = some p.2) ∧ (∀ z, z ≠ x → (∀ p ∈ ps c, z ≠ p.1) → stored.contains z = false → m z = m₀ z) ∧ P (vs.take i) c) W off (fun b hb => ?_)
    (fun p hp q => offN p hp (List.mem_cons.mpr (.inl (List.mem_singleton.mp q)))) offN ⟨⟨_, Heap.get?_push_size _ rfl, rfl, rfl⟩, here.at fun _ e => Heap.get?_push_of_some _ e⟩ (F.push _) (fun p hp => ⟨Heap.get?_push_of_some _ (N p hp).1, (N p hp).2⟩)
    ⟨c₀, rfl, hf, hk, fun _ _ _ _ => rfl, hp⟩ ?_ ?_)
  · rw [List.mem_singleton.mp hb]
    exact next_is_new F
  · rintro i v m₁ nx h tk own _ hv _ offO ⟨c, rfl, facts, names, rest, hc⟩ F₁ N₁
    have ⟨a, b⟩ := parted (show vs[i]? = some v by simpa using hv)
    rw [a]
    exact turn c _ _ v m₁ h tk own b offO facts hc (kst_fr names rest F₁) N₁
  · rintro m₁ nx h tk ⟨c, rfl, facts, names, rest, hc⟩ F₁ N₁
    exact done c m₁ h tk facts (by simpa using hc) (kst_frOut names rest F₁) N₁
theorem kst_vend {σ : Type} {Led : σ → List (Addr × Obj)} {ps : σ → List (Str × Value)} {Facts : σ → Prop} {stored : List Str} {m₀ : Str → Option Value} {P : σ → Prop} (c : σ) {L : Addr} {m' : Str → Option Value} {own news' : List (Addr × Obj)} {adr : List Addr} {s₁ : Shared} {h' : Heap} {tk : Nat}
    (F : Fr h₀ L h' m') (N : News h₀ L h' news') (hn : ∀ p ∈ Led c, p ∈ news') (ho : ∀ p ∈ own, p ∈ news') (ha : (Led c).map (·.1) = adr) (hf : Facts c) (hk : ∀ p ∈ ps c, m' p.1 = some p.2) (hr : ∀ z, z ≠ x → (∀ p ∈ ps c, z ≠ p.1) → stored.contains z = false → m' z = m₀ z) (hp : P c) :
    InvEndN h₀ L (fun m' nx => ∃ c : σ, nx = Led c ∧ Facts c ∧ (∀ p ∈ ps c, m' p.1 = some p.2) ∧ (∀ z, z ≠ x → (∀ p ∈ ps c, z ≠ p.1) → stored.contains z = false → m' z = m₀ z) ∧ P c) own adr s₁ { s₁ with heap := h', toks := tk } :=
  InvEndN.intro F N ⟨c, rfl, hf, hk, hr, hp⟩ ha hn ho
end

set_option maxRecDepth 100000
set_option maxHeartbeats 8000000

inductive C where
  | none | bad | ns (l : List Int)
noncomputable def cntP (f : D → D) : List P → Option (List Int)
  | [] => some []
  | p :: ps => match f (.p p) with
    | .p (.int i) => if 0 ≤ i then (cntP f ps).map (i :: ·) else none
    | _ => none
noncomputable def cntD (f : D → D) (d : D) : C := match f d with
  | .p .none => .none
  | .list ps => (match cntP f ps with
    | some l => .ns l
    | none => .bad)
  | _ => .bad
noncomputable def IsC (h : Heap) (v : Value) : C → Prop
  | .none => v = .none
  | .bad => ∃ t, v = .str (Str.ofString "bad") t
  | .ns l => ∃ a vs n, v = .ref a ∧ h.get? a = some (listOf vs.toArray n) ∧ IntsAre vs l ∧ l.length ≤ 64
theorem D.three (d : D) : d = .p .none ∨ (∃ ps, d = .list ps) ∨ (d.isNone = false ∧ d.isi "lst" = false) := by
  cases d with
  | p p => cases p with
    | none => exact .inl rfl
    | _ => exact .inr (.inr ⟨rfl, rfl⟩)
  | list ps => exact .inr (.inl ⟨ps, rfl⟩)
  | emp => exact .inr (.inr ⟨rfl, rfl⟩)
theorem cnt_int {d : D} (h : d.cnt = true) : ∃ i, d = .p (.int i) ∧ 0 ≤ i := by
  cases d with
  | p p => cases p with
    | int i => exact ⟨i, rfl, of_decide_eq_true h⟩
    | _ => cases h
  | _ => cases h
theorem cntP_bad {f : D → D} {p : P} {ps : List P} (h : (f (.p p)).cnt = false) : cntP f (p :: ps) = none := by
  unfold cntP
  split
  · rename_i i e
    rw [e] at h
    have : ¬ 0 ≤ i := of_decide_eq_false h
    rw [if_neg this]
  · rfl
theorem cntP_ok {f : D → D} {p : P} {ps : List P} {i : Int} (h : f (.p p) = .p (.int i)) (h0 : 0 ≤ i) : cntP f (p :: ps) = (cntP f ps).map (i :: ·) := by
  simp only [cntP, h, if_pos h0]
theorem IsPs.length {g : Heap} : ∀ {vs : List Value} {ps : List P}, IsPs g vs ps → vs.length = ps.length
  | [], [], _ => rfl
  | _ :: _, _ :: _, h => by simp only [List.length_cons, IsPs.length h.2]
theorem IsPs.at_ {g : Heap} : ∀ {pre : List Value} {v : Value} {post : List Value} {ps : List P}, IsPs g (pre ++ v :: post) ps → ∃ p, IsP g v p ∧ ps.drop pre.length = p :: ps.drop (pre.length + 1)
  | [], v, post, p :: ps, h => ⟨p, h.1, rfl⟩
  | [], v, post, [], h => h.elim
  | a :: pre, v, post, [], h => h.elim
  | a :: pre, v, post, q :: ps, h => by
    obtain ⟨p, h1, h2⟩ := IsPs.at_ (pre := pre) h.2
    exact ⟨p, h1, by simpa using h2⟩
local macro_rules | `(tactic| walk_at "call ref") => `(tactic| refine holdAt 313 ?_)
local macro_rules | `(tactic| walk_at "call ref") => `(tactic| refine holdAt 380 ?_)
local macro_rules | `(tactic| walk_at "call ref") => `(tactic| refine holdAt 472 ?_)
local macro_rules | `(tactic| walk_at "call ref") => `(tactic| refine holdAt 460 ?_)
local macro_rules | `(tactic| walk_at "compareOp Is") => `(tactic| (k_here; (with_reducible show wpAny _ _ (compareOp CmpOp.Is _ Value.none) _ _ _); k_dflt (refine' is_none_ ?F ?X ?v ?_; (case F => k_asm); (case X => k_asm); (case v => kbo_bools)); (intro tk; (try (rename (D.isNone _ = false) => hx9; rw [hx9])))))
local macro_rules | `(tactic| walk_at "call builtin:isinstance") => `(tactic| (k_here; (with_reducible show wpAny _ _ (call _ [_, Value.type "list"]) _ _ _); k_dflt (refine' isi_lst ?F ?X ?v ?_; (case F => k_asm); (case X => k_asm); (case v => kbo_bools)); (intro tk; (try (rename (D.isi _ "lst" = false) => hx9; rw [hx9])))))
theorem raise_cross {w : World} {A : Around} {E : Value → Shared → Prop} {s : Shared} {env : Env} {h₀ : Heap} {L : Addr} {m : Str → Option Value} {x : Expr} {pos : Pos} {Q : Flow → Shared → Prop} (F : Fr h₀ L s.heap m) (X₀ : (hd.heap_1 w.params).In h₀) (hh : A.handled = none)
    (h : wpAny (model PySem.Challenge.rw_nn0123_01.row.prog w) A (eval x env) (fun v s₁ => ∃ e t d', v = .ref e ∧ (∀ b o, h₀.get? b = some o → s₁.heap.get? b = some o) ∧ s₁.heap.get? e = some (excO t d') ∧ E (.ref e) s₁) E s) :
    wpAny (model PySem.Challenge.rw_nn0123_01.row.prog w) A (exec (.Raise (some x) none pos) env) Q E s := by
  rw [arm_exec_Raise]
  refine wpAny_bind (wpAny_standAt ?_)
  show wpAny _ A (raiseStmt env (some (eval x env >>= fun v => standAt pos >>= fun _ => pure v)) none) Q E s
  unfold raiseStmt
  refine wpAny_bind (wpAny_bind (wpAny_mono h (fun _ s₁ q => ?_) fun _ _ z => z))
  obtain ⟨e, t, d', rfl, up, he, hE⟩ := q
  refine wpAny_bind (wpAny_standAt (wpAny_pure ?_))
  obtain ⟨h1, g, d, tk, os⟩ := s₁
  have l1 := exc_type (w := w) (s := ⟨h1, g, d, tk, os⟩) he
  have l2 : Looks (model PySem.Challenge.rw_nn0123_01.row.prog w) h1 (isSubtype (.ref 59) (.type "BaseException")) true := looks_mroIn (X₀.keeps up) (by rfl)
  have l3 : Looks (model PySem.Challenge.rw_nn0123_01.row.prog w) h1 (isInstance (.ref e) (.type "BaseException")) true := l1.andThen l2
  have h59 : h1.get? 59 = some _ := up _ _ (X₀ 59 _ rfl)
  repeat (first | exact wpAny_raiseNew_none hh hE | lk | wp_step)
local macro_rules | `(tactic| walk_at "exec Raise some none") => `(tactic| (k_here; k_dflt (refine' raise_cross ?F ?X ?h ?_; (case F => k_asm); (case X => k_asm); (case h => exact rfl))))
local macro_rules | `(tactic| walk_at "call ref") => `(tactic| refine holdAt 59 ?_)
local macro_rules | `(tactic| walk_at "leaving ref") => `(tactic| (k_here; k_dflt (refine' leave_first ?K ?F ?hB ?he ?hen ?htn ?ht ?hc ?_; (case hB => assumption); (case he => assumption); (case hen => assumption); (case htn => assumption); (case ht => assumption); (case F => assumption); (case K => assumption); (case hc => assumption)); (intro h9 fl9; (try dsimp only))))
section
local macro_rules | `(tactic| walk_at "pyIter ref") => `(tactic| ((with_reducible show wpAny _ _ (pyIter (Value.ref _)) (fun it s₂ => LoopAtV _ _ _ _ _ _ _ _ _ it s₂) _ _); refine Hold.out ?_))
local macro_rules | `(tactic| walk_at "InvEndN") => `(tactic| refine Hold.out ?_)
local macro_rules | `(tactic| walk_at "exec For Name Name cons nil") => `(tactic| (k_here; (rename Fr _ _ _ _ => lF'); (with_unfolding_all refine' For_invVF lF' ?k1 ?k2 ?_; (case k1 => exact rfl); (case k2 => exact rfl); k_whole)))
theorem counts_in_ok {w : World} {mean : ExcName → Option Value} {mg mb : Str → Option Value} {dp un : Nat} {gd : Option (List Code)} {cn : Str} {cs : Scope} {a : Addr} {ccd : Value} {cl : List (Str × Addr)} {outer : List Env} {A₀ : Around} {base h₀ : Heap} {L : Addr} {m : Str → Option Value} {s : Shared} {Q E : Value → Shared → Prop}
    (B : Below A₀ base outer h₀) (F : Fr h₀ L s.heap m) (X : (hd.heap_1 w.params).In h₀) (T : Top view (looseW view looseN) mean mg mb h₀) (hk : cs.kind = .function)
    {sv : Value} {t : Addr} {key : Str} {tk : Tok} {T' : List (Int × D)} {H : List (Str × D)} {g : Heap}
    (N : News h₀ L s.heap []) (hg : ∀ b o, g.get? b = some o → s.heap.get? b = some o) (hsv : IsShelf w g sv T') (hh : IsHead w g t H) (hkl : key.length ≤ 100)
    (hd : dp + 220 < recursionLimit) (hu : un + 220 < cLine)
    (exc : ∀ e h' tk', Fl (envX cn cs L a ccd cl :: outer) s.heap e h' → cntD (fetchK T' 30) (headAt H key) = .bad → E (.ref e) { s with heap := h', toks := tk' })
    (ret : ∀ (r : Value) h' tk', Fr h₀ L h' m → But [] s.heap h' → cntD (fetchK T' 30) (headAt H key) ≠ .bad → IsC h' r (cntD (fetchK T' 30) (headAt H key)) → (∀ a, r = .ref a → s.heap.get? a = none) → Q (r) { s with heap := h', toks := tk' }) :
    wpAny (model PySem.Challenge.rw_nn0123_01.row.prog w) (ktrTop dp un gd cn cs L a ccd cl outer) (call (.ref 387) [sv, .ref t, .str key tk]) Q E s := by
  revert X; k_fill; intro X
  have hsv' := hsv
  obtain ⟨x, dx, es, n, t', rfl, h1s, h2s, h3, h4, h5, h6⟩ := hsv
  refine wpAny_call ?_
  k_dflt (refine' code_defH (binds := [(Str.ofString "shelf", .ref x), (Str.ofString "head", .ref t), (Str.ofString "key", .str key tk)]) ?k1 ?k2 ?k3 ?k4 ?k5 ?kA ?kF ?kK ?k6 ?k7 ?k8 ?k9 ?kB ?_ ?c2 ?c3 ?c4 ?c5; (case kA => exact rfl); (case kF => exact rfl); (case kK => assumption); (case k1 => k_asm); (case k2 => k_asm); (case k3 => k_asm); (case k4 => k_asm); (case k5 => k_asm); (case k6 => k_is); (case k7 => k_is); (case k8 => ktr_room); (case k9 => exact BindsTo.of_eq rfl); (case c5 => decide); (case kB => exact locs rfl); (case c2 => exact rfl); (case c3 => exact rfl); (case c4 => exact rfl); k_whole)
  intro g1 L1 h1 FG1 F1 N1 B1 X1 T1 hB1 hS1 hL1 hZ1
  (try dsimp only)
  (try simp only [AllLt, and_true] at hL1)
  (try k_fold)
  have hk2 : ∀ b o, g.get? b = some o → g1.get? b = some o := fun b o e => hB1 b o (hg b o e) (by simp)
  have hk1 : ∀ b o, s.heap.get? b = some o → g1.get? b = some o := fun b o e => hB1 b o e (by simp)
  have h1s := hk2 _ _ h1s
  have h2s := hk2 _ _ h2s
  (k_steps; repeat' ((refine Hold.mk ?_; first | ((with_reducible show wpAny _ _ (call (Value.ref 59) [Value.str _ _]) _ _ _); (refine' cross_made ?B ?F ?X ?T ?hk ?hd ?hu ?_; (case B => k_asm); (case F => k_asm); (case X => k_asm); (case T => k_asm); (case hk => first | exact rfl | assumption); (case hd => ktr_room); (case hu => ktr_units)); (intro ze9 zt9 zdd9 zh9 ztk9 zhen9 zhe9 zhtn9 zht9 zhb9); (refine ⟨ze9, zt9, zdd9, rfl, stays_trans (Fr.keep (by assumption)) zhb9.stays, zhe9, ?_⟩)) | ((with_reducible show wpAny _ _ (call (Value.ref 380) [_]) _ _ _); (refine' is_count_ok ?B ?F ?X ?T ?hk ?N ?hv ?hd ?hu ?_; (case B => k_asm); (case F => k_asm); (case X => k_asm); (case T => k_asm); (case hk => first | exact rfl | assumption); (case N => exact News.nil); (case hv => (first | exact IsD.keeps (by assumption) (Fr.keep (by assumption)) | exact IsD.keeps (by assumption) (stays_trans (by assumption) (Fr.keep (by assumption))))); (case hd => ktr_room); (case hu => ktr_units)); intro zh9 ztk9 zF9 zhb9; (have zN9 := newsStay (by assumption) zhb9); (try dsimp only)) | ((with_reducible show wpAny _ _ (call (Value.ref 313) [_, _, _]) _ _ _); (refine' get_ok ?B ?F ?X ?T ?hk ?N ?hg ?hs ?hh ?hd ?hu ?_; (case B => k_asm); (case F => k_asm); (case X => k_asm); (case T => k_asm); (case hk => first | exact rfl | assumption); (case N => exact News.nil); (case hh => assumption); (case hs => assumption); (case hg => (first | exact Fr.keep (by assumption) | exact stays_trans (by assumption) (Fr.keep (by assumption)))); (case hd => ktr_room); (case hu => ktr_units)); intro zr9 zh9 ztk9 zF9 zhb9 zhr9; (have zN9 := newsStay (by assumption) zhb9); (try dsimp only); refine Hold.out ?_) | ((with_reducible show wpAny _ _ (call (Value.ref 306) [_, _]) _ _ _); (refine' fetch_ok ?B ?F ?X ?T ?hk ?N ?hg ?hs ?hv ?hd ?hu ?_; (case B => k_asm); (case F => k_asm); (case X => k_asm); (case T => k_asm); (case hk => first | exact rfl | assumption); (case N => exact News.nil); (case hv => assumption); (case hs => assumption); (case hg => (first | exact Fr.keep (by assumption) | exact stays_trans (by assumption) (Fr.keep (by assumption)))); (case hd => ktr_room); (case hu => ktr_units)); intro zr9 zh9 ztk9 zF9 zhb9 zhr9; (have zN9 := newsStay (by assumption) zhb9); (try dsimp only))); k_steps))
  unfold Hold
  rename IsD g _ (fetchK _ _ _) => hr9
  generalize hdat : fetchK T' 30 (headAt H key) = dd at hr9
  rcases D.three dd with rfl | ⟨ps, rfl⟩ | ⟨hn1, hn2⟩
  · have hc : cntD (fetchK T' 30) (headAt H key) = .none := by simp only [cntD, hdat]
    cases hr9
    (k_steps; repeat' ((refine Hold.mk ?_; first | ((with_reducible show wpAny _ _ (call (Value.ref 59) [Value.str _ _]) _ _ _); (refine' cross_made ?B ?F ?X ?T ?hk ?hd ?hu ?_; (case B => k_asm); (case F => k_asm); (case X => k_asm); (case T => k_asm); (case hk => first | exact rfl | assumption); (case hd => ktr_room); (case hu => ktr_units)); (intro ze9 zt9 zdd9 zh9 ztk9 zhen9 zhe9 zhtn9 zht9 zhb9); (refine ⟨ze9, zt9, zdd9, rfl, stays_trans (Fr.keep (by assumption)) zhb9.stays, zhe9, ?_⟩)) | ((with_reducible show wpAny _ _ (call (Value.ref 380) [_]) _ _ _); (refine' is_count_ok ?B ?F ?X ?T ?hk ?N ?hv ?hd ?hu ?_; (case B => k_asm); (case F => k_asm); (case X => k_asm); (case T => k_asm); (case hk => first | exact rfl | assumption); (case N => exact News.nil); (case hv => (first | exact IsD.keeps (by assumption) (Fr.keep (by assumption)) | exact IsD.keeps (by assumption) (stays_trans (by assumption) (Fr.keep (by assumption))))); (case hd => ktr_room); (case hu => ktr_units)); intro zh9 ztk9 zF9 zhb9; (have zN9 := newsStay (by assumption) zhb9); (try dsimp only)) | ((with_reducible show wpAny _ _ (call (Value.ref 313) [_, _, _]) _ _ _); (refine' get_ok ?B ?F ?X ?T ?hk ?N ?hg ?hs ?hh ?hd ?hu ?_; (case B => k_asm); (case F => k_asm); (case X => k_asm); (case T => k_asm); (case hk => first | exact rfl | assumption); (case N => exact News.nil); (case hh => assumption); (case hs => assumption); (case hg => (first | exact Fr.keep (by assumption) | exact stays_trans (by assumption) (Fr.keep (by assumption)))); (case hd => ktr_room); (case hu => ktr_units)); intro zr9 zh9 ztk9 zF9 zhb9 zhr9; (have zN9 := newsStay (by assumption) zhb9); (try dsimp only); refine Hold.out ?_) | ((with_reducible show wpAny _ _ (call (Value.ref 306) [_, _]) _ _ _); (refine' fetch_ok ?B ?F ?X ?T ?hk ?N ?hg ?hs ?hv ?hd ?hu ?_; (case B => k_asm); (case F => k_asm); (case X => k_asm); (case T => k_asm); (case hk => first | exact rfl | assumption); (case N => exact News.nil); (case hv => assumption); (case hs => assumption); (case hg => (first | exact Fr.keep (by assumption) | exact stays_trans (by assumption) (Fr.keep (by assumption)))); (case hd => ktr_room); (case hu => ktr_units)); intro zr9 zh9 ztk9 zF9 zhb9 zhr9; (have zN9 := newsStay (by assumption) zhb9); (try dsimp only))); k_steps))
    refine ret _ _ _ (by assumption) (But.ofFr hB1 (by assumption)) (by rw [hc]; exact fun q => nomatch q) (by rw [hc]; exact rfl) (fun _ q => nomatch q)
  · have hc : cntD (fetchK T' 30) (headAt H key) = (match cntP (fetchK T' 30) ps with | some l => .ns l | none => .bad) := by simp only [cntD, hdat]
    obtain ⟨la, vs, ln, rfl, hl1, hl2, hl3⟩ := hr9
    have hl1' := hk2 _ _ hl1
    have hl1c := Fr.keep (by assumption) _ _ hl1'
    (k_steps; repeat' ((refine Hold.mk ?_; first | ((with_reducible show wpAny _ _ (call (Value.ref 59) [Value.str _ _]) _ _ _); (refine' cross_made ?B ?F ?X ?T ?hk ?hd ?hu ?_; (case B => k_asm); (case F => k_asm); (case X => k_asm); (case T => k_asm); (case hk => first | exact rfl | assumption); (case hd => ktr_room); (case hu => ktr_units)); (intro ze9 zt9 zdd9 zh9 ztk9 zhen9 zhe9 zhtn9 zht9 zhb9); (refine ⟨ze9, zt9, zdd9, rfl, stays_trans (Fr.keep (by assumption)) zhb9.stays, zhe9, ?_⟩)) | ((with_reducible show wpAny _ _ (call (Value.ref 380) [_]) _ _ _); (refine' is_count_ok ?B ?F ?X ?T ?hk ?N ?hv ?hd ?hu ?_; (case B => k_asm); (case F => k_asm); (case X => k_asm); (case T => k_asm); (case hk => first | exact rfl | assumption); (case N => exact News.nil); (case hv => (first | exact IsD.keeps (by assumption) (Fr.keep (by assumption)) | exact IsD.keeps (by assumption) (stays_trans (by assumption) (Fr.keep (by assumption))))); (case hd => ktr_room); (case hu => ktr_units)); intro zh9 ztk9 zF9 zhb9; (have zN9 := newsStay (by assumption) zhb9); (try dsimp only)) | ((with_reducible show wpAny _ _ (call (Value.ref 313) [_, _, _]) _ _ _); (refine' get_ok ?B ?F ?X ?T ?hk ?N ?hg ?hs ?hh ?hd ?hu ?_; (case B => k_asm); (case F => k_asm); (case X => k_asm); (case T => k_asm); (case hk => first | exact rfl | assumption); (case N => exact News.nil); (case hh => assumption); (case hs => assumption); (case hg => (first | exact Fr.keep (by assumption) | exact stays_trans (by assumption) (Fr.keep (by assumption)))); (case hd => ktr_room); (case hu => ktr_units)); intro zr9 zh9 ztk9 zF9 zhb9 zhr9; (have zN9 := newsStay (by assumption) zhb9); (try dsimp only); refine Hold.out ?_) | ((with_reducible show wpAny _ _ (call (Value.ref 306) [_, _]) _ _ _); (refine' fetch_ok ?B ?F ?X ?T ?hk ?N ?hg ?hs ?hv ?hd ?hu ?_; (case B => k_asm); (case F => k_asm); (case X => k_asm); (case T => k_asm); (case hk => first | exact rfl | assumption); (case N => exact News.nil); (case hv => assumption); (case hs => assumption); (case hg => (first | exact Fr.keep (by assumption) | exact stays_trans (by assumption) (Fr.keep (by assumption)))); (case hd => ktr_room); (case hu => ktr_units)); intro zr9 zh9 ztk9 zF9 zhb9 zhr9; (have zN9 := newsStay (by assumption) zhb9); (try dsimp only))); k_steps))
    unfold Hold
    rename Fr g1 _ _ _ => lF'
    rename News g1 _ _ _ => lN'
    have hvl := hl2.length
    with_unfolding_all refine' kst_vals (σ := List Value × List Int × Nat) (fun c => [(_, listOf c.1.toArray c.2.2)]) (fun _ => []) (fun c => IntsAre c.1 c.2.1) [Str.ofString "value"] (fun pre c => cntP (fetchK T' 30) ps = (cntP (fetchK T' 30) (ps.drop pre.length)).map (c.2.1 ++ ·) ∧ c.2.1.length = pre.length) ([], [], 0) (by rfl) ⟨_, hl1', rfl, _, rfl⟩ lF' lN' ?kf ?kk ?kp ?_ ?_
    case kf => exact IntsAre.nil
    case kk => exact fun _ hp => nomatch hp
    case kp => exact ⟨by simp, rfl⟩
    · intro c pre post v u h tk own hvs hoff hfacts hP F2 N2
      obtain ⟨us, ns, un'⟩ := c
      dsimp only at hfacts hP F2 N2
      rw [hvs] at hl2
      obtain ⟨p, hp1, hp2⟩ := hl2.at_
      have hpd : IsD g v (.p p) := hp1
      have hlen : pre.length < 64 := by
        have : (pre ++ v :: post).length = vs.length := by rw [hvs]
        simp only [List.length_append, List.length_cons] at this
        omega
      (k_steps; repeat' ((refine Hold.mk ?_; first | ((with_reducible show wpAny _ _ (call (Value.ref 59) [Value.str _ _]) _ _ _); (refine' cross_made ?B ?F ?X ?T ?hk ?hd ?hu ?_; (case B => k_asm); (case F => k_asm); (case X => k_asm); (case T => k_asm); (case hk => first | exact rfl | assumption); (case hd => ktr_room); (case hu => ktr_units)); (intro ze9 zt9 zdd9 zh9 ztk9 zhen9 zhe9 zhtn9 zht9 zhb9); (refine ⟨ze9, zt9, zdd9, rfl, stays_trans (Fr.keep (by assumption)) zhb9.stays, zhe9, ?_⟩)) | ((with_reducible show wpAny _ _ (call (Value.ref 380) [_]) _ _ _); (refine' is_count_ok ?B ?F ?X ?T ?hk ?N ?hv ?hd ?hu ?_; (case B => k_asm); (case F => k_asm); (case X => k_asm); (case T => k_asm); (case hk => first | exact rfl | assumption); (case N => exact News.nil); (case hv => (first | exact IsD.keeps (by assumption) (Fr.keep (by assumption)) | exact IsD.keeps (by assumption) (stays_trans (by assumption) (Fr.keep (by assumption))))); (case hd => ktr_room); (case hu => ktr_units)); intro zh9 ztk9 zF9 zhb9; (have zN9 := newsStay (by assumption) zhb9); (try dsimp only)) | ((with_reducible show wpAny _ _ (call (Value.ref 313) [_, _, _]) _ _ _); (refine' get_ok ?B ?F ?X ?T ?hk ?N ?hg ?hs ?hh ?hd ?hu ?_; (case B => k_asm); (case F => k_asm); (case X => k_asm); (case T => k_asm); (case hk => first | exact rfl | assumption); (case N => exact News.nil); (case hh => assumption); (case hs => assumption); (case hg => (first | exact Fr.keep (by assumption) | exact stays_trans (by assumption) (Fr.keep (by assumption)))); (case hd => ktr_room); (case hu => ktr_units)); intro zr9 zh9 ztk9 zF9 zhb9 zhr9; (have zN9 := newsStay (by assumption) zhb9); (try dsimp only); refine Hold.out ?_) | ((with_reducible show wpAny _ _ (call (Value.ref 306) [_, _]) _ _ _); (refine' fetch_ok ?B ?F ?X ?T ?hk ?N ?hg ?hs ?hv ?hd ?hu ?_; (case B => k_asm); (case F => k_asm); (case X => k_asm); (case T => k_asm); (case hk => first | exact rfl | assumption); (case N => exact News.nil); (case hv => assumption); (case hs => assumption); (case hg => (first | exact Fr.keep (by assumption) | exact stays_trans (by assumption) (Fr.keep (by assumption)))); (case hd => ktr_room); (case hu => ktr_units)); intro zr9 zh9 ztk9 zF9 zhb9 zhr9; (have zN9 := newsStay (by assumption) zhb9); (try dsimp only))); k_steps))
      · unfold Hold
        rename IsD g _ (fetchK _ _ _) => hD3
        rename D.cnt _ = true => hcn
        obtain ⟨i, hi, hi0⟩ := cnt_int hcn
        rw [hi] at hD3
        obtain ⟨ti, rfl⟩ := hD3
        rename Fr g1 _ _ _ => Fz
        rename News g1 _ _ _ => Nz
        refine kst_vend (us ++ [.int i ti], ns ++ [i], _) Fz Nz (fun p hp => by simp only [List.mem_cons, List.not_mem_nil, or_false] at hp; rw [hp]; simp only [List.push_toArray]; exact List.mem_cons_self) (fun p hp => List.mem_cons_of_mem _ hp) rfl (hfacts.append (IntsAre.cons _ _ IntsAre.nil)) (by kst_all) ?_ ?_
        · intro z hz hp hs
          have hs' := hs
          simp only [List.contains_cons, List.contains_nil, Bool.or_false, Bool.or_eq_false_iff, beq_eq_false_iff_ne] at hs'
          simp only [kstB, if_neg hs', if_neg hz, hs, Bool.false_eq_true, if_false]
        · refine ⟨?_, by simp [hP.2]⟩
          rw [hP.1, hp2, cntP_ok hi hi0, List.length_append, List.length_singleton, Option.map_map]
          congr 1
          funext x
          simp
      · refine exc _ _ _ (by assumption) ?_
        rename D.cnt _ = false => hcn
        rw [hc, hP.1, hp2, cntP_bad hcn]
        rfl
    · intro c u h tk hfacts hP F2 N2
      obtain ⟨us, ns, un'⟩ := c
      dsimp only at hfacts hP F2 N2
      rw [List.drop_of_length_le (by omega)] at hP
      have hPn : cntP (fetchK T' 30) ps = some ns := by rw [hP.1]; simp [cntP]
      rw [hPn] at hc
      (k_steps; repeat' ((refine Hold.mk ?_; first | ((with_reducible show wpAny _ _ (call (Value.ref 59) [Value.str _ _]) _ _ _); (refine' cross_made ?B ?F ?X ?T ?hk ?hd ?hu ?_; (case B => k_asm); (case F => k_asm); (case X => k_asm); (case T => k_asm); (case hk => first | exact rfl | assumption); (case hd => ktr_room); (case hu => ktr_units)); (intro ze9 zt9 zdd9 zh9 ztk9 zhen9 zhe9 zhtn9 zht9 zhb9); (refine ⟨ze9, zt9, zdd9, rfl, stays_trans (Fr.keep (by assumption)) zhb9.stays, zhe9, ?_⟩)) | ((with_reducible show wpAny _ _ (call (Value.ref 380) [_]) _ _ _); (refine' is_count_ok ?B ?F ?X ?T ?hk ?N ?hv ?hd ?hu ?_; (case B => k_asm); (case F => k_asm); (case X => k_asm); (case T => k_asm); (case hk => first | exact rfl | assumption); (case N => exact News.nil); (case hv => (first | exact IsD.keeps (by assumption) (Fr.keep (by assumption)) | exact IsD.keeps (by assumption) (stays_trans (by assumption) (Fr.keep (by assumption))))); (case hd => ktr_room); (case hu => ktr_units)); intro zh9 ztk9 zF9 zhb9; (have zN9 := newsStay (by assumption) zhb9); (try dsimp only)) | ((with_reducible show wpAny _ _ (call (Value.ref 313) [_, _, _]) _ _ _); (refine' get_ok ?B ?F ?X ?T ?hk ?N ?hg ?hs ?hh ?hd ?hu ?_; (case B => k_asm); (case F => k_asm); (case X => k_asm); (case T => k_asm); (case hk => first | exact rfl | assumption); (case N => exact News.nil); (case hh => assumption); (case hs => assumption); (case hg => (first | exact Fr.keep (by assumption) | exact stays_trans (by assumption) (Fr.keep (by assumption)))); (case hd => ktr_room); (case hu => ktr_units)); intro zr9 zh9 ztk9 zF9 zhb9 zhr9; (have zN9 := newsStay (by assumption) zhb9); (try dsimp only); refine Hold.out ?_) | ((with_reducible show wpAny _ _ (call (Value.ref 306) [_, _]) _ _ _); (refine' fetch_ok ?B ?F ?X ?T ?hk ?N ?hg ?hs ?hv ?hd ?hu ?_; (case B => k_asm); (case F => k_asm); (case X => k_asm); (case T => k_asm); (case hk => first | exact rfl | assumption); (case N => exact News.nil); (case hv => assumption); (case hs => assumption); (case hg => (first | exact Fr.keep (by assumption) | exact stays_trans (by assumption) (Fr.keep (by assumption)))); (case hd => ktr_room); (case hu => ktr_units)); intro zr9 zh9 ztk9 zF9 zhb9 zhr9; (have zN9 := newsStay (by assumption) zhb9); (try dsimp only))); k_steps))
      rename News g1 _ _ _ => Nz
      rename News h₀ _ _ _ => Ny
      have hl' := Nz _ (List.mem_cons_self)
      refine ret _ _ _ (by assumption) (But.ofFr hB1 (by assumption)) (by rw [hc]; exact fun q => nomatch q) ?_ (fun a e => ?_)
      · rw [hc]
        exact ⟨_, us, un', rfl, hl'.1, hfacts, by omega⟩
      · cases e
        cases hq : s.heap.get? _ with
        | none => rfl
        | some o => exact absurd (hk1 _ _ hq) (by rw [hl'.2.2]; exact fun q => nomatch q)
  · have hc : cntD (fetchK T' 30) (headAt H key) = .bad := by
      unfold cntD; rw [hdat]; split
      · cases hn1
      · cases hn2
      · rfl
    (k_steps; repeat' ((refine Hold.mk ?_; first | ((with_reducible show wpAny _ _ (call (Value.ref 59) [Value.str _ _]) _ _ _); (refine' cross_made ?B ?F ?X ?T ?hk ?hd ?hu ?_; (case B => k_asm); (case F => k_asm); (case X => k_asm); (case T => k_asm); (case hk => first | exact rfl | assumption); (case hd => ktr_room); (case hu => ktr_units)); (intro ze9 zt9 zdd9 zh9 ztk9 zhen9 zhe9 zhtn9 zht9 zhb9); (refine ⟨ze9, zt9, zdd9, rfl, stays_trans (Fr.keep (by assumption)) zhb9.stays, zhe9, ?_⟩)) | ((with_reducible show wpAny _ _ (call (Value.ref 380) [_]) _ _ _); (refine' is_count_ok ?B ?F ?X ?T ?hk ?N ?hv ?hd ?hu ?_; (case B => k_asm); (case F => k_asm); (case X => k_asm); (case T => k_asm); (case hk => first | exact rfl | assumption); (case N => exact News.nil); (case hv => (first | exact IsD.keeps (by assumption) (Fr.keep (by assumption)) | exact IsD.keeps (by assumption) (stays_trans (by assumption) (Fr.keep (by assumption))))); (case hd => ktr_room); (case hu => ktr_units)); intro zh9 ztk9 zF9 zhb9; (have zN9 := newsStay (by assumption) zhb9); (try dsimp only)) | ((with_reducible show wpAny _ _ (call (Value.ref 313) [_, _, _]) _ _ _); (refine' get_ok ?B ?F ?X ?T ?hk ?N ?hg ?hs ?hh ?hd ?hu ?_; (case B => k_asm); (case F => k_asm); (case X => k_asm); (case T => k_asm); (case hk => first | exact rfl | assumption); (case N => exact News.nil); (case hh => assumption); (case hs => assumption); (case hg => (first | exact Fr.keep (by assumption) | exact stays_trans (by assumption) (Fr.keep (by assumption)))); (case hd => ktr_room); (case hu => ktr_units)); intro zr9 zh9 ztk9 zF9 zhb9 zhr9; (have zN9 := newsStay (by assumption) zhb9); (try dsimp only); refine Hold.out ?_) | ((with_reducible show wpAny _ _ (call (Value.ref 306) [_, _]) _ _ _); (refine' fetch_ok ?B ?F ?X ?T ?hk ?N ?hg ?hs ?hv ?hd ?hu ?_; (case B => k_asm); (case F => k_asm); (case X => k_asm); (case T => k_asm); (case hk => first | exact rfl | assumption); (case N => exact News.nil); (case hv => assumption); (case hs => assumption); (case hg => (first | exact Fr.keep (by assumption) | exact stays_trans (by assumption) (Fr.keep (by assumption)))); (case hd => ktr_room); (case hu => ktr_units)); intro zr9 zh9 ztk9 zF9 zhb9 zhr9; (have zN9 := newsStay (by assumption) zhb9); (try dsimp only))); k_steps))
    exact exc _ _ _ (by assumption) hc
end

set_option maxRecDepth 100000
set_option maxHeartbeats 8000000

open LCg LCt
section
variable {prog : Program} {w : World} {A A₀ : Around} {E : Value → Shared → Prop} {s : Shared} {K : Frag} {C L : Addr} {h₀ base : Heap} {m mg mb : Str → Option Value} {news : List (Addr × Obj)} {p : Program} {loose : List Str} {mean : ExcName → Option Value} {Q : Value → Shared → Prop}
theorem code_defHC {env : Env} {outer : List Env} {R : Result → Shared → Prop} {name qual : Str} {params : Arguments} {body : List Stmt} {scope : Scope} {dV kV doc pm cdv ct oc : Value} {an od : Option Addr} {osl : Array (Option Value)} {f : Addr} {args : Args} {binds : List (Str × Value)}
    (B : Below A₀ base outer h₀) (F : Fr h₀ L s.heap m) (X₀ : K.In h₀) (N : News h₀ L s.heap news) (T : Top p loose mean mg mb h₀) (hA : A.frames = some (env :: outer)) (hf : env.frame = some L) (hke : env.scope.kind = .function)
    (ho : K.lookup f = some ⟨oc, od, .func (fnOf name qual params body scope dV kV doc pm an cdv ct), osl⟩) (hcd : codeIn K cdv qual = true) (hroom : A.depth < recursionLimit)
    (hbind : BindsTo s (fnOf name qual params body scope dV kV doc pm an cdv ct) args binds) (hkind : (binds.all fun y => scope.names.lookup y.1 == some .local || scope.names.lookup y.1 == some .cell) = true)
    (hnd : ((cellsFrom 0 scope.names []).map (·.1)).Nodup)
    (h : ∀ g L' h₁ tk cells, Fr h₀ L g m → Fr g L' h₁ (bindL (envOfC qual scope L' f cdv).kindOf binds fun _ => none) → News g L' h₁ (cells ++ news) →
      CellsAre (bindC (envOfC qual scope L' f cdv).kindOf binds fun _ => none) (cellsFrom (L' + 1) scope.names []) cells → Below A base (env :: outer) g → K.In g → Top p loose mean mg mb g → But (news.map (·.1)) s.heap g → g.StaysIn s.heap → AllLt L' news → s.heap.objs.size ≤ L' →
      wpAny (model prog w) (A.deeper (envOfC qual scope L' f cdv)) (execs body (envOfC qual scope L' f cdv))
        (fun fl s' => LeaveK h₀ L m g R (match fl with | .ret v => v | _ => .none) s')
        (fun e s' => wpAny (model prog w) (A.deeper (envOfC qual scope L' f cdv)) (leaving (envOfC qual scope L' f cdv) e) (fun _ s'' => R (.error e) s'') (fun e' s'' => R (.error e') s'') s')
        { s with heap := h₁, toks := tk })
    (hco : scope.isCoroutine = false) (hgen : scope.isGenerator = false) (hk : scope.kind = .function) : codeAny (model prog w) A (.call (.ref f) args) R s := by
  obtain ⟨g, FG, BG, XG, TG, but, back, toFr, toNews, lt, lv⟩ := grounds (R := R) B F X₀ N T hA hf hke
  have X := X₀.keeps F.keep
  have nd : ((cellsFrom (s.heap.objs.size + 1) scope.names []).map (·.1)).Nodup := cellsFrom_names scope.names 0 (s.heap.objs.size + 1) [] [] rfl ▸ hnd
  refine codeAny_call_function hroom (X _ _ ho) rfl hco hgen rfl (codeRec_of X hcd) (hbind _ _ _ _ (wpAny_newFunctionEnv_cells hk (kindsX hkind _) fun _ q _ x => ?_))
  cases q
  have up := x.toInCall.keep
  refine ⟨(T.nolimit.keeps F.keep).keeps up, codeAny_func ?_⟩
  obtain ⟨h₁, tk, rfl, _⟩ := x.done
  obtain ⟨cells, NC, Y⟩ := Cl.news (h₀ := s.heap) (Nat.le_refl _) fun n c hm => ⟨x.cell n c (lookup_of_mem_nodup nd hm), x.above n c hm⟩
  have both : News g s.heap.objs.size h₁ (cells ++ news) := fun y hy => by
    rcases List.mem_append.mp hy with hc | hn
    · obtain ⟨here, apart, fresh⟩ := NC y hc
      refine ⟨here, apart, Option.eq_none_iff_forall_ne_some.mpr fun o e => ?_⟩
      rw [back _ _ e] at fresh
      cases fresh
    · exact toNews h₁ up y hn
  exact wpAny_mono (h g _ h₁ tk cells FG (toFr _ _ up x.toInCall.ns) both Y BG XG TG but back lt (Nat.le_refl _)) (fun _ _ => lv _ _) fun _ _ y => y
theorem eq_nil {a b : Addr} {ws : List Value} {k j : Nat} (N : News h₀ L s.heap news) (ha : (a, listOf ws.toArray k) ∈ news) (hb : (b, listOf ([] : List Value).toArray j) ∈ news) (hu : A.units < cLine) (h : Q (.bool ws.isEmpty) s) :
    wpAny (model prog w) A (compareOp .Eq (.ref a) (.ref b)) Q E s := by
  have la : s.heap.IsList a ws.toArray := ⟨_, (N _ ha).1, rfl, _, rfl⟩
  have lb : s.heap.IsList b ([] : List Value).toArray := ⟨_, (N _ hb).1, rfl, _, rfl⟩
  cases ws with
  | nil =>
    refine SeqAt.eq_listAt (e := fun _ => true) la lb rfl hu (fun j h1 _ => absurd h1 (Nat.not_lt_zero _)) ?_
    exact h
  | cons x xs =>
    refine SeqAt.eq_list_lengthsAt la lb (by simp) hu ?_
    exact h
end

section
variable {prog : Program} {w : World} {A : Around} {s : Shared} {h₀ : Heap} {L : Addr} {m : Str → Option Value} {env : Env} {elt ct : Expr} {x : Str} {scope : Scope} {cl : List (Str × Addr)} {S : List (Addr × Obj) → Prop} {P : Nat → Value → Prop} {Fin : List Value → List (Addr × Obj) → Prop} {n : Nat} {news : List (Addr × Obj)}
theorem comp_all (Inv : Nat → List Value → Prop)
    (turn : ∀ i v ys I oI C oC D m₂ h tk (E' : Value → Shared → Prop), i < n → P i v → Inv i ys → NsObj oC m₂ → m₂ x = some v → Fr h₀ L h m → News h₀ L h ((I, oI) :: (C, oC) :: (D, lst ys) :: news) → Off3 I C D news → ((@Ne Nat I C) ∧ (@Ne Nat I D) ∧ (@Ne Nat C D)) →
      wpAny (model prog w) A (eval elt (compEnvC scope cl C env)) (CompEnd h₀ L m { s with heap := h, toks := tk } I oI C oC D (lst ys) S (fun y news' => Hold (news' = news ∧ Inv (i + 1) (ys ++ [y])))) E' { s with heap := h, toks := tk })
    (start : Inv 0 []) (fin : ∀ ys, Inv n ys → Fin ys news) : CompRest prog w A h₀ L m env elt x scope cl s S P Fin n 0 [] news := by
  have key : ∀ (k i : Nat) (ys : List Value), i + k = n → Inv i ys → CompRest prog w A h₀ L m env elt x scope cl s S P Fin k i ys news := by
    intro k
    induction k with
    | zero => intro i ys e hi; exact CompRest.zero (fin ys (by rw [← e]; exact hi))
    | succ k ih =>
      intro i ys e hi
      refine CompRest.succ fun v I oI C oC D m₂ h tk E' hv hC hx F N off ne => ?_
      refine wpAny_mono (turn i v ys I oI C oC D m₂ h tk E' (by omega) hv hi hC hx F N off ne) (fun y s₁ q => ?_) fun _ _ z => z
      obtain ⟨h', tk', news', e1, F', N', o', S', e2, hi'⟩ := q
      exact ⟨h', tk', news', e1, F', N', o', S', e2 ▸ ih (i + 1) _ (by omega) hi'⟩
  exact key n 0 [] (by omega) start
theorem comp_allT (Inv : Nat → List Value → Prop)
    (turn : ∀ i v ys I oI C oC D m₂ h tk (E' : Value → Shared → Prop), i < n → P i v → Inv i ys → NsObj oC m₂ → m₂ x = some v → Fr h₀ L h m → News h₀ L h ((I, oI) :: (C, oC) :: (D, lst ys) :: news) → Off3 I C D news → ((@Ne Nat I C) ∧ (@Ne Nat I D) ∧ (@Ne Nat C D)) →
      wpAny (model prog w) A (isTrue ct (compEnvC scope cl C env) (eval ct (compEnvC scope cl C env))) (fun ok s' => if ok = true then
        wpAny (model prog w) A (eval elt (compEnvC scope cl C env)) (CompEnd h₀ L m { s with heap := h, toks := tk } I oI C oC D (lst ys) S (fun y news' => Hold (news' = news ∧ Inv (i + 1) (ys ++ [y])))) E' s'
        else CompEnd h₀ L m { s with heap := h, toks := tk } I oI C oC D (lst ys) S (fun _ news' => Hold (news' = news ∧ Inv (i + 1) ys)) Value.none s') E' { s with heap := h, toks := tk })
    (start : Inv 0 []) (fin : ∀ ys, Inv n ys → Fin ys news) : CompRestT prog w A h₀ L m env ct elt x scope cl s S P Fin n 0 [] news := by
  have key : ∀ (k i : Nat) (ys : List Value), i + k = n → Inv i ys → CompRestT prog w A h₀ L m env ct elt x scope cl s S P Fin k i ys news := by
    intro k
    induction k with
    | zero => intro i ys e hi; exact CompRestT.zero (fin ys (by rw [← e]; exact hi))
    | succ k ih =>
      intro i ys e hi
      refine CompRestT.succ fun v I oI C oC D m₂ h tk E' hv hC hx F N off ne => ?_
      refine wpAny_mono (turn i v ys I oI C oC D m₂ h tk E' (by omega) hv hi hC hx F N off ne) (fun ok s₁ q => ?_) fun _ _ z => z
      cases ok with
      | true =>
        simp only [if_true] at q ⊢
        refine wpAny_mono q (fun y s₁ q => ?_) fun _ _ z => z
        obtain ⟨h', tk', news', e1, F', N', o', S', e2, hi'⟩ := q
        exact ⟨h', tk', news', e1, F', N', o', S', e2 ▸ ih (i + 1) _ (by omega) hi'⟩
      | false =>
        simp only [Bool.false_eq_true, if_false] at q ⊢
        obtain ⟨h', tk', news', e1, F', N', o', S', e2, hi'⟩ := q
        exact ⟨h', tk', news', e1, F', N', o', S', e2 ▸ ih (i + 1) _ (by omega) hi'⟩
  exact key n 0 [] (by omega) start
end
noncomputable def IsFs (g : Heap) (f : D → D) : List Value → List P → Prop
  | [], [] => True
  | v :: vs, p :: ps => IsD g v (f (.p p)) ∧ IsFs g f vs ps
  | _, _ => False
theorem IsFs.snoc {g : Heap} {f : D → D} {v : Value} {p : P} (h : IsD g v (f (.p p))) : ∀ {vs : List Value} {ps : List P}, IsFs g f vs ps → IsFs g f (vs ++ [v]) (ps ++ [p])
  | [], [], _ => ⟨h, trivial⟩
  | _ :: _, _ :: _, q => ⟨q.1, IsFs.snoc h q.2⟩
theorem IsFs.length {g : Heap} {f : D → D} : ∀ {vs : List Value} {ps : List P}, IsFs g f vs ps → vs.length = ps.length
  | [], [], _ => rfl
  | _ :: _, _ :: _, h => by simp only [List.length_cons, IsFs.length h.2]
theorem IsFs.get {g : Heap} {f : D → D} {vs : List Value} {ps : List P} {i : Nat} {v : Value} (q : IsFs g f vs ps) (e : vs[i]? = some v) : ∃ p, ps[i]? = some p ∧ IsD g v (f (.p p)) := by
  induction vs generalizing ps i with
  | nil => rw [List.getElem?_nil] at e; exact absurd e (Option.some_ne_none _).symm
  | cons x vs ih =>
    cases ps with
    | nil => exact q.elim
    | cons p ps =>
      cases i with
      | zero => rw [List.getElem?_cons_zero] at e; cases e; exact ⟨p, rfl, q.1⟩
      | succ i =>
        rw [List.getElem?_cons_succ] at e
        rw [List.getElem?_cons_succ]
        exact ih q.2 e
theorem IsPs.get {g : Heap} {vs : List Value} {ps : List P} {i : Nat} {v : Value} (q : IsPs g vs ps) (e : vs[i]? = some v) : ∃ p, ps[i]? = some p ∧ IsP g v p := by
  induction vs generalizing ps i with
  | nil => rw [List.getElem?_nil] at e; exact absurd e (Option.some_ne_none _).symm
  | cons x vs ih =>
    cases ps with
    | nil => exact q.elim
    | cons p ps =>
      cases i with
      | zero => rw [List.getElem?_cons_zero] at e; cases e; exact ⟨p, rfl, q.1⟩
      | succ i =>
        rw [List.getElem?_cons_succ] at e
        rw [List.getElem?_cons_succ]
        exact ih q.2 e
theorem take_snoc {α : Type} {l : List α} {i : Nat} {a : α} (h : l[i]? = some a) : l.take (i + 1) = l.take i ++ [a] := by
  rw [List.take_add_one, h]; rfl
theorem IsFs.cnt {g : Heap} {f : D → D} : ∀ {vs : List Value} {ps : List P}, IsFs g f vs ps → (ps.all fun p => (f (.p p)).cnt) = true → ∃ l, cntP f ps = some l ∧ IntsAre vs l
  | [], [], _, _ => ⟨[], rfl, IntsAre.nil⟩
  | v :: vs, p :: ps, h, e => by
    rw [List.all_cons, Bool.and_eq_true] at e
    obtain ⟨l, h1, h2⟩ := IsFs.cnt h.2 e.2
    obtain ⟨i, hi, h0⟩ := cnt_int e.1
    have hv := h.1
    rw [hi] at hv
    obtain ⟨t, rfl⟩ := hv
    exact ⟨i :: l, by rw [cntP_ok hi h0, h1]; rfl, .cons _ _ h2⟩
theorem cntP_all {f : D → D} : ∀ {ps : List P}, (ps.all fun p => (f (.p p)).cnt) = false → cntP f ps = none
  | [], e => by cases e
  | p :: ps, e => by
    rw [List.all_cons] at e
    cases hc : (f (.p p)).cnt with
    | false => exact cntP_bad hc
    | true =>
      rw [hc, Bool.true_and] at e
      obtain ⟨i, hi, h0⟩ := cnt_int hc
      rw [cntP_ok hi h0, cntP_all e]; rfl
noncomputable def cntO : Option (List Int) → C
  | some l => .ns l
  | none => .bad
theorem cntD_list {f : D → D} {d : D} {ps : List P} (h : f d = .list ps) : cntD f d = cntO (cntP f ps) := by
  unfold cntD; rw [h]; simp only []; cases hq : cntP f ps <;> simp only [cntO]
theorem cntD_none {f : D → D} {d : D} (h : f d = .p .none) : cntD f d = .none := by
  unfold cntD; rw [h]
theorem cntD_other {f : D → D} {d : D} (h1 : (f d).isNone = false) (h2 : (f d).isi "lst" = false) : cntD f d = .bad := by
  unfold cntD
  split
  · rename_i e; rw [e] at h1; cases h1
  · rename_i e; rw [e] at h2; cases h2
  · rfl

set_option maxRecDepth 100000
set_option maxHeartbeats 8000000
section

local macro_rules | `(tactic| walk_at "CompSrc") => `(tactic| refine Hold.out ?_)
local macro_rules | `(tactic| walk_at "compareOp Eq ref ref") => `(tactic| refine Hold.out ?_)
local macro_rules | `(tactic| walk_at "CompSrcT") => `(tactic| refine Hold.out ?_)
local macro_rules | `(tactic| walk_at "nothing at all") => `(tactic| fail)
theorem law_counts_ok {w : World} {mean : ExcName → Option Value} {mg mb : Str → Option Value} {dp un : Nat} {gd : Option (List Code)} {cn : Str} {cs : Scope} {a : Addr} {ccd : Value} {cl : List (Str × Addr)} {outer : List Env} {A₀ : Around} {base h₀ : Heap} {L : Addr} {m : Str → Option Value} {s : Shared} {Q E : Value → Shared → Prop}
    (B : Below A₀ base outer h₀) (F : Fr h₀ L s.heap m) (X : (hd.heap_1 w.params).In h₀) (T : Top view (looseW view looseN) mean mg mb h₀) (hk : cs.kind = .function)
    {t : Addr} {v : Value} {T' : List (Int × D)} {d : D} {g : Heap}
    (N : News h₀ L s.heap []) (hg : ∀ b o, g.get? b = some o → s.heap.get? b = some o) (hs : IsTabL w g t T') (hv : IsD g v d)
    (hd : dp + 220 < recursionLimit) (hu : un + 220 < cLine)
    (ret : ∀ (r : Value) h' tk', Fr h₀ L h' m → But [] s.heap h' → IsC h' r (cntD (lawF T' 9) d) → (∀ a, r = .ref a → s.heap.get? a = none) → Q (r) { s with heap := h', toks := tk' }) :
    wpAny (model PySem.Challenge.rw_nn0123_01.row.prog w) (ktrTop dp un gd cn cs L a ccd cl outer) (call (.ref 465) [.ref t, v]) Q E s := by
  revert X; k_fill; intro X
  refine wpAny_call ?_
  k_dflt (refine' code_defHC (binds := [(Str.ofString "table", .ref t), (Str.ofString "value", v)]) ?k1 ?k2 ?k3 ?k4 ?k5 ?kA ?kF ?kK ?k6 ?k7 ?k8 ?k9 ?kB ?kD ?_ ?c2 ?c3 ?c4; (case kA => exact rfl); (case kF => exact rfl); (case kK => assumption); (case k1 => k_asm); (case k2 => k_asm); (case k3 => k_asm); (case k4 => k_asm); (case k5 => k_asm); (case k6 => k_is); (case k7 => k_is); (case k8 => ktr_room); (case k9 => exact BindsTo.of_eq rfl); (case kB => exact rfl); (case kD => decide +kernel); (case c2 => exact rfl); (case c3 => exact rfl); (case c4 => exact rfl); k_whole)
  intro g1 L1 h1 tk1 cells1 FG1 F1 N1 Y1 B1 X1 T1 hB1 hS1 hL1 hZ1
  k_cells Y1
  (try simp only [List.cons_append, List.nil_append] at N1)
  (try dsimp only)
  (try simp only [AllLt, and_true] at hL1)
  (try k_fold)
  have hk1 : ∀ b o, s.heap.get? b = some o → g1.get? b = some o := fun b o e => hB1 b o e (by simp)
  have hk2 : ∀ b o, g.get? b = some o → g1.get? b = some o := fun b o e => hk1 b o (hg b o e)
  (k_steps; repeat' ((refine Hold.mk ?_; first | ((with_reducible show wpAny _ _ (call (Value.ref 460) [_, _]) _ _ _); (refine' law_fetched_ok ?B ?F ?X ?T ?hk ?N ?hg ?hs ?hv ?hd ?hu ?_; (case B => k_asm); (case F => k_asm); (case X => k_asm); (case T => k_asm); (case hk => first | exact rfl | assumption); (case N => exact News.nil); (case hv => assumption); (case hs => assumption); (case hg => (first | exact Fr.keep (by assumption) | exact stays_trans (by assumption) (Fr.keep (by assumption)))); (case hd => ktr_room); (case hu => ktr_units)); intro zr9 zh9 ztk9 zF9 zhb9 zhr9; (have zN9 := newsStay (by assumption) zhb9); (try dsimp only); refine Hold.out ?_) | ((with_reducible show wpAny _ _ (call (Value.ref 460) [_, _]) _ _ _); (refine' law_fetched_ok ?B ?F ?X ?T ?hk ?N ?hg ?hs ?hv ?hd ?hu ?_; (case B => k_asm); (case F => k_asm); (case X => k_asm); (case T => k_asm); (case hk => first | exact rfl | assumption); (case N => exact News.nil); (case hv => assumption); (case hs => assumption); (case hg => (first | exact Fr.keep (by assumption) | exact stays_trans (by assumption) (Fr.keep (by assumption)))); (case hd => ktr_room); (case hu => ktr_units)); intro zr9 zh9 ztk9 zF9 zhb9 zhr9; (have zN9 := newsStay (by assumption) zhb9); (try dsimp only)) | ((with_reducible show wpAny _ _ (call (Value.ref 472) [_]) _ _ _); (refine' law_is_count_ok ?B ?F ?X ?T ?hk ?N ?hv ?hd ?hu ?_; (case B => k_asm); (case F => k_asm); (case X => k_asm); (case T => k_asm); (case hk => first | exact rfl | assumption); (case N => exact News.nil); (case hv => (first | exact IsD.keeps (by assumption) (Fr.keep (by assumption)) | exact IsD.keeps (by assumption) (stays_trans (by assumption) (Fr.keep (by assumption))))); (case hd => ktr_room); (case hu => ktr_units)); intro zh9 ztk9 zF9 zhb9; (have zN9 := newsStay (by assumption) zhb9); (try dsimp only))); k_steps))
  dsimp only [Hold]
  rename IsD g _ (lawF _ _ _) => hr9
  generalize hdat : lawF T' 9 d = dd at hr9
  rcases D.three dd with rfl | ⟨ps, rfl⟩ | ⟨hn1, hn2⟩
  · have hc := cntD_none hdat
    cases hr9
    (k_steps; repeat' ((refine Hold.mk ?_; first | ((with_reducible show wpAny _ _ (call (Value.ref 460) [_, _]) _ _ _); (refine' law_fetched_ok ?B ?F ?X ?T ?hk ?N ?hg ?hs ?hv ?hd ?hu ?_; (case B => k_asm); (case F => k_asm); (case X => k_asm); (case T => k_asm); (case hk => first | exact rfl | assumption); (case N => exact News.nil); (case hv => assumption); (case hs => assumption); (case hg => (first | exact Fr.keep (by assumption) | exact stays_trans (by assumption) (Fr.keep (by assumption)))); (case hd => ktr_room); (case hu => ktr_units)); intro zr9 zh9 ztk9 zF9 zhb9 zhr9; (have zN9 := newsStay (by assumption) zhb9); (try dsimp only); refine Hold.out ?_) | ((with_reducible show wpAny _ _ (call (Value.ref 460) [_, _]) _ _ _); (refine' law_fetched_ok ?B ?F ?X ?T ?hk ?N ?hg ?hs ?hv ?hd ?hu ?_; (case B => k_asm); (case F => k_asm); (case X => k_asm); (case T => k_asm); (case hk => first | exact rfl | assumption); (case N => exact News.nil); (case hv => assumption); (case hs => assumption); (case hg => (first | exact Fr.keep (by assumption) | exact stays_trans (by assumption) (Fr.keep (by assumption)))); (case hd => ktr_room); (case hu => ktr_units)); intro zr9 zh9 ztk9 zF9 zhb9 zhr9; (have zN9 := newsStay (by assumption) zhb9); (try dsimp only)) | ((with_reducible show wpAny _ _ (call (Value.ref 472) [_]) _ _ _); (refine' law_is_count_ok ?B ?F ?X ?T ?hk ?N ?hv ?hd ?hu ?_; (case B => k_asm); (case F => k_asm); (case X => k_asm); (case T => k_asm); (case hk => first | exact rfl | assumption); (case N => exact News.nil); (case hv => (first | exact IsD.keeps (by assumption) (Fr.keep (by assumption)) | exact IsD.keeps (by assumption) (stays_trans (by assumption) (Fr.keep (by assumption))))); (case hd => ktr_room); (case hu => ktr_units)); intro zh9 ztk9 zF9 zhb9; (have zN9 := newsStay (by assumption) zhb9); (try dsimp only))); k_steps))
    refine ret _ _ _ (by assumption) (But.ofFr hB1 (by assumption)) (by rw [hc]; exact rfl) (fun _ q => nomatch q)
  · have hc := cntD_list hdat
    obtain ⟨la, vs, ln, rfl, hl1, hl2, hl3⟩ := hr9
    have hl1' := hk2 _ _ hl1
    have hl1c := Fr.keep (by assumption) _ _ hl1'
    have hvl := hl2.length
    have hlst : g1.IsList la vs.toArray := ⟨_, hl1', rfl, _, rfl⟩
    (k_steps; repeat' ((refine Hold.mk ?_; first | ((with_reducible show wpAny _ _ (call (Value.ref 460) [_, _]) _ _ _); (refine' law_fetched_ok ?B ?F ?X ?T ?hk ?N ?hg ?hs ?hv ?hd ?hu ?_; (case B => k_asm); (case F => k_asm); (case X => k_asm); (case T => k_asm); (case hk => first | exact rfl | assumption); (case N => exact News.nil); (case hv => assumption); (case hs => assumption); (case hg => (first | exact Fr.keep (by assumption) | exact stays_trans (by assumption) (Fr.keep (by assumption)))); (case hd => ktr_room); (case hu => ktr_units)); intro zr9 zh9 ztk9 zF9 zhb9 zhr9; (have zN9 := newsStay (by assumption) zhb9); (try dsimp only); refine Hold.out ?_) | ((with_reducible show wpAny _ _ (call (Value.ref 460) [_, _]) _ _ _); (refine' law_fetched_ok ?B ?F ?X ?T ?hk ?N ?hg ?hs ?hv ?hd ?hu ?_; (case B => k_asm); (case F => k_asm); (case X => k_asm); (case T => k_asm); (case hk => first | exact rfl | assumption); (case N => exact News.nil); (case hv => assumption); (case hs => assumption); (case hg => (first | exact Fr.keep (by assumption) | exact stays_trans (by assumption) (Fr.keep (by assumption)))); (case hd => ktr_room); (case hu => ktr_units)); intro zr9 zh9 ztk9 zF9 zhb9 zhr9; (have zN9 := newsStay (by assumption) zhb9); (try dsimp only)) | ((with_reducible show wpAny _ _ (call (Value.ref 472) [_]) _ _ _); (refine' law_is_count_ok ?B ?F ?X ?T ?hk ?N ?hv ?hd ?hu ?_; (case B => k_asm); (case F => k_asm); (case X => k_asm); (case T => k_asm); (case hk => first | exact rfl | assumption); (case N => exact News.nil); (case hv => (first | exact IsD.keeps (by assumption) (Fr.keep (by assumption)) | exact IsD.keeps (by assumption) (stays_trans (by assumption) (Fr.keep (by assumption))))); (case hd => ktr_room); (case hu => ktr_units)); intro zh9 ztk9 zF9 zhb9; (have zN9 := newsStay (by assumption) zhb9); (try dsimp only))); k_steps))
    unfold Hold
    refine LCg.CompSrc.base (by rfl) (by assumption) (by assumption) (its := vs.toArray) hlst (by rw [sizeLine_eq]; simp; omega) fun g' => ?_
    refine comp_all (fun i ys => IsFs g (lawF T' 9) ys (ps.take i)) ?_ (by simp [IsFs]) ?_
    · intro i v ys I oI C oC D m₂ h tk E' hi hv hys hC hx F2 N2 off ne
      have hv' : vs[i]? = some v := by simpa using hv
      obtain ⟨p, hp, hpv⟩ := hl2.get hv'
      have hpd : IsD g v (.p p) := hpv
      simp only [Off3, and_true] at off
      (k_steps; repeat' ((refine Hold.mk ?_; first | ((with_reducible show wpAny _ _ (call (Value.ref 460) [_, _]) _ _ _); (refine' law_fetched_ok ?B ?F ?X ?T ?hk ?N ?hg ?hs ?hv ?hd ?hu ?_; (case B => k_asm); (case F => k_asm); (case X => k_asm); (case T => k_asm); (case hk => first | exact rfl | assumption); (case N => exact News.nil); (case hv => assumption); (case hs => assumption); (case hg => (first | exact Fr.keep (by assumption) | exact stays_trans (by assumption) (Fr.keep (by assumption)))); (case hd => ktr_room); (case hu => ktr_units)); intro zr9 zh9 ztk9 zF9 zhb9 zhr9; (have zN9 := newsStay (by assumption) zhb9); (try dsimp only); refine Hold.out ?_) | ((with_reducible show wpAny _ _ (call (Value.ref 460) [_, _]) _ _ _); (refine' law_fetched_ok ?B ?F ?X ?T ?hk ?N ?hg ?hs ?hv ?hd ?hu ?_; (case B => k_asm); (case F => k_asm); (case X => k_asm); (case T => k_asm); (case hk => first | exact rfl | assumption); (case N => exact News.nil); (case hv => assumption); (case hs => assumption); (case hg => (first | exact Fr.keep (by assumption) | exact stays_trans (by assumption) (Fr.keep (by assumption)))); (case hd => ktr_room); (case hu => ktr_units)); intro zr9 zh9 ztk9 zF9 zhb9 zhr9; (have zN9 := newsStay (by assumption) zhb9); (try dsimp only)) | ((with_reducible show wpAny _ _ (call (Value.ref 472) [_]) _ _ _); (refine' law_is_count_ok ?B ?F ?X ?T ?hk ?N ?hv ?hd ?hu ?_; (case B => k_asm); (case F => k_asm); (case X => k_asm); (case T => k_asm); (case hk => first | exact rfl | assumption); (case N => exact News.nil); (case hv => (first | exact IsD.keeps (by assumption) (Fr.keep (by assumption)) | exact IsD.keeps (by assumption) (stays_trans (by assumption) (Fr.keep (by assumption))))); (case hd => ktr_room); (case hu => ktr_units)); intro zh9 ztk9 zF9 zhb9; (have zN9 := newsStay (by assumption) zhb9); (try dsimp only))); k_steps))
      dsimp only [Hold]
      rename IsD g _ (lawF _ _ (.p _)) => hr
      (k_steps; repeat' ((refine Hold.mk ?_; first | ((with_reducible show wpAny _ _ (call (Value.ref 460) [_, _]) _ _ _); (refine' law_fetched_ok ?B ?F ?X ?T ?hk ?N ?hg ?hs ?hv ?hd ?hu ?_; (case B => k_asm); (case F => k_asm); (case X => k_asm); (case T => k_asm); (case hk => first | exact rfl | assumption); (case N => exact News.nil); (case hv => assumption); (case hs => assumption); (case hg => (first | exact Fr.keep (by assumption) | exact stays_trans (by assumption) (Fr.keep (by assumption)))); (case hd => ktr_room); (case hu => ktr_units)); intro zr9 zh9 ztk9 zF9 zhb9 zhr9; (have zN9 := newsStay (by assumption) zhb9); (try dsimp only); refine Hold.out ?_) | ((with_reducible show wpAny _ _ (call (Value.ref 460) [_, _]) _ _ _); (refine' law_fetched_ok ?B ?F ?X ?T ?hk ?N ?hg ?hs ?hv ?hd ?hu ?_; (case B => k_asm); (case F => k_asm); (case X => k_asm); (case T => k_asm); (case hk => first | exact rfl | assumption); (case N => exact News.nil); (case hv => assumption); (case hs => assumption); (case hg => (first | exact Fr.keep (by assumption) | exact stays_trans (by assumption) (Fr.keep (by assumption)))); (case hd => ktr_room); (case hu => ktr_units)); intro zr9 zh9 ztk9 zF9 zhb9 zhr9; (have zN9 := newsStay (by assumption) zhb9); (try dsimp only)) | ((with_reducible show wpAny _ _ (call (Value.ref 472) [_]) _ _ _); (refine' law_is_count_ok ?B ?F ?X ?T ?hk ?N ?hv ?hd ?hu ?_; (case B => k_asm); (case F => k_asm); (case X => k_asm); (case T => k_asm); (case hk => first | exact rfl | assumption); (case N => exact News.nil); (case hv => (first | exact IsD.keeps (by assumption) (Fr.keep (by assumption)) | exact IsD.keeps (by assumption) (stays_trans (by assumption) (Fr.keep (by assumption))))); (case hd => ktr_room); (case hu => ktr_units)); intro zh9 ztk9 zF9 zhb9; (have zN9 := newsStay (by assumption) zhb9); (try dsimp only))); k_steps))
      unfold Hold
      exact ⟨rfl, by rw [take_snoc hp]; exact hys.snoc hr⟩
    · intro ys hys
      have hys' : IsFs g (lawF T' 9) ys ps := by
        have e : ps.take vs.toArray.size = ps := List.take_of_length_le (by simp; omega)
        rw [e] at hys
        exact hys
      have hyl := hys'.length
      (k_steps; repeat' ((refine Hold.mk ?_; first | ((with_reducible show wpAny _ _ (call (Value.ref 460) [_, _]) _ _ _); (refine' law_fetched_ok ?B ?F ?X ?T ?hk ?N ?hg ?hs ?hv ?hd ?hu ?_; (case B => k_asm); (case F => k_asm); (case X => k_asm); (case T => k_asm); (case hk => first | exact rfl | assumption); (case N => exact News.nil); (case hv => assumption); (case hs => assumption); (case hg => (first | exact Fr.keep (by assumption) | exact stays_trans (by assumption) (Fr.keep (by assumption)))); (case hd => ktr_room); (case hu => ktr_units)); intro zr9 zh9 ztk9 zF9 zhb9 zhr9; (have zN9 := newsStay (by assumption) zhb9); (try dsimp only); refine Hold.out ?_) | ((with_reducible show wpAny _ _ (call (Value.ref 460) [_, _]) _ _ _); (refine' law_fetched_ok ?B ?F ?X ?T ?hk ?N ?hg ?hs ?hv ?hd ?hu ?_; (case B => k_asm); (case F => k_asm); (case X => k_asm); (case T => k_asm); (case hk => first | exact rfl | assumption); (case N => exact News.nil); (case hv => assumption); (case hs => assumption); (case hg => (first | exact Fr.keep (by assumption) | exact stays_trans (by assumption) (Fr.keep (by assumption)))); (case hd => ktr_room); (case hu => ktr_units)); intro zr9 zh9 ztk9 zF9 zhb9 zhr9; (have zN9 := newsStay (by assumption) zhb9); (try dsimp only)) | ((with_reducible show wpAny _ _ (call (Value.ref 472) [_]) _ _ _); (refine' law_is_count_ok ?B ?F ?X ?T ?hk ?N ?hv ?hd ?hu ?_; (case B => k_asm); (case F => k_asm); (case X => k_asm); (case T => k_asm); (case hk => first | exact rfl | assumption); (case N => exact News.nil); (case hv => (first | exact IsD.keeps (by assumption) (Fr.keep (by assumption)) | exact IsD.keeps (by assumption) (stays_trans (by assumption) (Fr.keep (by assumption))))); (case hd => ktr_room); (case hu => ktr_units)); intro zh9 ztk9 zF9 zhb9; (have zN9 := newsStay (by assumption) zhb9); (try dsimp only))); k_steps))
      unfold Hold
      refine LCt.CompSrcT.ledger (by rfl) (by assumption) (by assumption) (by k_mem) (by rw [sizeLine_eq]; simp; omega) fun g' => ?_
      refine comp_allT (fun i zs => zs.isEmpty = (ps.take i).all fun p => (lawF T' 9 (.p p)).cnt) ?_ (by simp) ?_
      · intro i v zs I oI C oC D m₂ h tk E' hi hv hzs hC hx F2 N2 off ne
        have hv' : ys[i]? = some v := by simpa using hv
        obtain ⟨p, hp, hpv⟩ := hys'.get hv'
        simp only [Off3, and_true] at off
        (k_steps; repeat' ((refine Hold.mk ?_; first | ((with_reducible show wpAny _ _ (call (Value.ref 460) [_, _]) _ _ _); (refine' law_fetched_ok ?B ?F ?X ?T ?hk ?N ?hg ?hs ?hv ?hd ?hu ?_; (case B => k_asm); (case F => k_asm); (case X => k_asm); (case T => k_asm); (case hk => first | exact rfl | assumption); (case N => exact News.nil); (case hv => assumption); (case hs => assumption); (case hg => (first | exact Fr.keep (by assumption) | exact stays_trans (by assumption) (Fr.keep (by assumption)))); (case hd => ktr_room); (case hu => ktr_units)); intro zr9 zh9 ztk9 zF9 zhb9 zhr9; (have zN9 := newsStay (by assumption) zhb9); (try dsimp only); refine Hold.out ?_) | ((with_reducible show wpAny _ _ (call (Value.ref 460) [_, _]) _ _ _); (refine' law_fetched_ok ?B ?F ?X ?T ?hk ?N ?hg ?hs ?hv ?hd ?hu ?_; (case B => k_asm); (case F => k_asm); (case X => k_asm); (case T => k_asm); (case hk => first | exact rfl | assumption); (case N => exact News.nil); (case hv => assumption); (case hs => assumption); (case hg => (first | exact Fr.keep (by assumption) | exact stays_trans (by assumption) (Fr.keep (by assumption)))); (case hd => ktr_room); (case hu => ktr_units)); intro zr9 zh9 ztk9 zF9 zhb9 zhr9; (have zN9 := newsStay (by assumption) zhb9); (try dsimp only)) | ((with_reducible show wpAny _ _ (call (Value.ref 472) [_]) _ _ _); (refine' law_is_count_ok ?B ?F ?X ?T ?hk ?N ?hv ?hd ?hu ?_; (case B => k_asm); (case F => k_asm); (case X => k_asm); (case T => k_asm); (case hk => first | exact rfl | assumption); (case N => exact News.nil); (case hv => (first | exact IsD.keeps (by assumption) (Fr.keep (by assumption)) | exact IsD.keeps (by assumption) (stays_trans (by assumption) (Fr.keep (by assumption))))); (case hd => ktr_room); (case hu => ktr_units)); intro zh9 ztk9 zF9 zhb9; (have zN9 := newsStay (by assumption) zhb9); (try dsimp only))); k_steps))
        · rename Mine.D.cnt _ = true => hcn
          unfold Hold
          exact ⟨rfl, by rw [take_snoc hp, List.all_append, ← hzs]; simp [hcn]⟩
        · rename Mine.D.cnt _ = false => hcn
          unfold Hold
          exact ⟨rfl, by rw [take_snoc hp, List.all_append]; simp [hcn]⟩
      · intro zs hzs
        have hzs' : zs.isEmpty = ps.all fun p => (lawF T' 9 (.p p)).cnt := by
          have e : ps.take ys.toArray.size = ps := List.take_of_length_le (by simp; omega)
          rw [e] at hzs
          exact hzs
        (k_steps; repeat' ((refine Hold.mk ?_; first | ((with_reducible show wpAny _ _ (call (Value.ref 460) [_, _]) _ _ _); (refine' law_fetched_ok ?B ?F ?X ?T ?hk ?N ?hg ?hs ?hv ?hd ?hu ?_; (case B => k_asm); (case F => k_asm); (case X => k_asm); (case T => k_asm); (case hk => first | exact rfl | assumption); (case N => exact News.nil); (case hv => assumption); (case hs => assumption); (case hg => (first | exact Fr.keep (by assumption) | exact stays_trans (by assumption) (Fr.keep (by assumption)))); (case hd => ktr_room); (case hu => ktr_units)); intro zr9 zh9 ztk9 zF9 zhb9 zhr9; (have zN9 := newsStay (by assumption) zhb9); (try dsimp only); refine Hold.out ?_) | ((with_reducible show wpAny _ _ (call (Value.ref 460) [_, _]) _ _ _); (refine' law_fetched_ok ?B ?F ?X ?T ?hk ?N ?hg ?hs ?hv ?hd ?hu ?_; (case B => k_asm); (case F => k_asm); (case X => k_asm); (case T => k_asm); (case hk => first | exact rfl | assumption); (case N => exact News.nil); (case hv => assumption); (case hs => assumption); (case hg => (first | exact Fr.keep (by assumption) | exact stays_trans (by assumption) (Fr.keep (by assumption)))); (case hd => ktr_room); (case hu => ktr_units)); intro zr9 zh9 ztk9 zF9 zhb9 zhr9; (have zN9 := newsStay (by assumption) zhb9); (try dsimp only)) | ((with_reducible show wpAny _ _ (call (Value.ref 472) [_]) _ _ _); (refine' law_is_count_ok ?B ?F ?X ?T ?hk ?N ?hv ?hd ?hu ?_; (case B => k_asm); (case F => k_asm); (case X => k_asm); (case T => k_asm); (case hk => first | exact rfl | assumption); (case N => exact News.nil); (case hv => (first | exact IsD.keeps (by assumption) (Fr.keep (by assumption)) | exact IsD.keeps (by assumption) (stays_trans (by assumption) (Fr.keep (by assumption))))); (case hd => ktr_room); (case hu => ktr_units)); intro zh9 ztk9 zF9 zhb9; (have zN9 := newsStay (by assumption) zhb9); (try dsimp only))); k_steps))
        unfold Hold
        rename News g1 _ _ _ => Nq
        refine eq_nil (ws := zs) Nq (List.mem_cons_of_mem _ List.mem_cons_self) List.mem_cons_self (by ktr_units) ?_
        rw [hzs']
        cases hal : ps.all fun p => (lawF T' 9 (.p p)).cnt with
        | true =>
          (k_steps; repeat' ((refine Hold.mk ?_; first | ((with_reducible show wpAny _ _ (call (Value.ref 460) [_, _]) _ _ _); (refine' law_fetched_ok ?B ?F ?X ?T ?hk ?N ?hg ?hs ?hv ?hd ?hu ?_; (case B => k_asm); (case F => k_asm); (case X => k_asm); (case T => k_asm); (case hk => first | exact rfl | assumption); (case N => exact News.nil); (case hv => assumption); (case hs => assumption); (case hg => (first | exact Fr.keep (by assumption) | exact stays_trans (by assumption) (Fr.keep (by assumption)))); (case hd => ktr_room); (case hu => ktr_units)); intro zr9 zh9 ztk9 zF9 zhb9 zhr9; (have zN9 := newsStay (by assumption) zhb9); (try dsimp only); refine Hold.out ?_) | ((with_reducible show wpAny _ _ (call (Value.ref 460) [_, _]) _ _ _); (refine' law_fetched_ok ?B ?F ?X ?T ?hk ?N ?hg ?hs ?hv ?hd ?hu ?_; (case B => k_asm); (case F => k_asm); (case X => k_asm); (case T => k_asm); (case hk => first | exact rfl | assumption); (case N => exact News.nil); (case hv => assumption); (case hs => assumption); (case hg => (first | exact Fr.keep (by assumption) | exact stays_trans (by assumption) (Fr.keep (by assumption)))); (case hd => ktr_room); (case hu => ktr_units)); intro zr9 zh9 ztk9 zF9 zhb9 zhr9; (have zN9 := newsStay (by assumption) zhb9); (try dsimp only)) | ((with_reducible show wpAny _ _ (call (Value.ref 472) [_]) _ _ _); (refine' law_is_count_ok ?B ?F ?X ?T ?hk ?N ?hv ?hd ?hu ?_; (case B => k_asm); (case F => k_asm); (case X => k_asm); (case T => k_asm); (case hk => first | exact rfl | assumption); (case N => exact News.nil); (case hv => (first | exact IsD.keeps (by assumption) (Fr.keep (by assumption)) | exact IsD.keeps (by assumption) (stays_trans (by assumption) (Fr.keep (by assumption))))); (case hd => ktr_room); (case hu => ktr_units)); intro zh9 ztk9 zF9 zhb9; (have zN9 := newsStay (by assumption) zhb9); (try dsimp only))); k_steps))
          obtain ⟨l, hl, hli⟩ := hys'.cnt hal
          rename News g1 _ _ _ => Nz
          have hl' := Nz _ (List.mem_cons_of_mem _ (List.mem_cons_of_mem _ List.mem_cons_self))
          refine ret _ _ _ (by assumption) (But.ofFr hB1 (by assumption)) ?_ (fun a e => ?_)
          · rw [hc, hl]
            exact ⟨_, ys, _, rfl, hl'.1, hli, by have := hli.length; omega⟩
          · cases e
            cases hq : s.heap.get? _ with
            | none => rfl
            | some o => exact absurd (hk1 _ _ hq) (by rw [hl'.2.2]; exact fun q => nomatch q)
        | false =>
          (k_steps; repeat' ((refine Hold.mk ?_; first | ((with_reducible show wpAny _ _ (call (Value.ref 460) [_, _]) _ _ _); (refine' law_fetched_ok ?B ?F ?X ?T ?hk ?N ?hg ?hs ?hv ?hd ?hu ?_; (case B => k_asm); (case F => k_asm); (case X => k_asm); (case T => k_asm); (case hk => first | exact rfl | assumption); (case N => exact News.nil); (case hv => assumption); (case hs => assumption); (case hg => (first | exact Fr.keep (by assumption) | exact stays_trans (by assumption) (Fr.keep (by assumption)))); (case hd => ktr_room); (case hu => ktr_units)); intro zr9 zh9 ztk9 zF9 zhb9 zhr9; (have zN9 := newsStay (by assumption) zhb9); (try dsimp only); refine Hold.out ?_) | ((with_reducible show wpAny _ _ (call (Value.ref 460) [_, _]) _ _ _); (refine' law_fetched_ok ?B ?F ?X ?T ?hk ?N ?hg ?hs ?hv ?hd ?hu ?_; (case B => k_asm); (case F => k_asm); (case X => k_asm); (case T => k_asm); (case hk => first | exact rfl | assumption); (case N => exact News.nil); (case hv => assumption); (case hs => assumption); (case hg => (first | exact Fr.keep (by assumption) | exact stays_trans (by assumption) (Fr.keep (by assumption)))); (case hd => ktr_room); (case hu => ktr_units)); intro zr9 zh9 ztk9 zF9 zhb9 zhr9; (have zN9 := newsStay (by assumption) zhb9); (try dsimp only)) | ((with_reducible show wpAny _ _ (call (Value.ref 472) [_]) _ _ _); (refine' law_is_count_ok ?B ?F ?X ?T ?hk ?N ?hv ?hd ?hu ?_; (case B => k_asm); (case F => k_asm); (case X => k_asm); (case T => k_asm); (case hk => first | exact rfl | assumption); (case N => exact News.nil); (case hv => (first | exact IsD.keeps (by assumption) (Fr.keep (by assumption)) | exact IsD.keeps (by assumption) (stays_trans (by assumption) (Fr.keep (by assumption))))); (case hd => ktr_room); (case hu => ktr_units)); intro zh9 ztk9 zF9 zhb9; (have zN9 := newsStay (by assumption) zhb9); (try dsimp only))); k_steps))
          refine ret _ _ _ (by assumption) (But.ofFr hB1 (by assumption)) (by rw [hc, cntP_all hal]; exact ⟨_, rfl⟩) (fun _ q => nomatch q)
  · have hc := cntD_other (f := lawF T' 9) (d := d) (by rw [hdat]; exact hn1) (by rw [hdat]; exact hn2)
    (k_steps; repeat' ((refine Hold.mk ?_; first | ((with_reducible show wpAny _ _ (call (Value.ref 460) [_, _]) _ _ _); (refine' law_fetched_ok ?B ?F ?X ?T ?hk ?N ?hg ?hs ?hv ?hd ?hu ?_; (case B => k_asm); (case F => k_asm); (case X => k_asm); (case T => k_asm); (case hk => first | exact rfl | assumption); (case N => exact News.nil); (case hv => assumption); (case hs => assumption); (case hg => (first | exact Fr.keep (by assumption) | exact stays_trans (by assumption) (Fr.keep (by assumption)))); (case hd => ktr_room); (case hu => ktr_units)); intro zr9 zh9 ztk9 zF9 zhb9 zhr9; (have zN9 := newsStay (by assumption) zhb9); (try dsimp only); refine Hold.out ?_) | ((with_reducible show wpAny _ _ (call (Value.ref 460) [_, _]) _ _ _); (refine' law_fetched_ok ?B ?F ?X ?T ?hk ?N ?hg ?hs ?hv ?hd ?hu ?_; (case B => k_asm); (case F => k_asm); (case X => k_asm); (case T => k_asm); (case hk => first | exact rfl | assumption); (case N => exact News.nil); (case hv => assumption); (case hs => assumption); (case hg => (first | exact Fr.keep (by assumption) | exact stays_trans (by assumption) (Fr.keep (by assumption)))); (case hd => ktr_room); (case hu => ktr_units)); intro zr9 zh9 ztk9 zF9 zhb9 zhr9; (have zN9 := newsStay (by assumption) zhb9); (try dsimp only)) | ((with_reducible show wpAny _ _ (call (Value.ref 472) [_]) _ _ _); (refine' law_is_count_ok ?B ?F ?X ?T ?hk ?N ?hv ?hd ?hu ?_; (case B => k_asm); (case F => k_asm); (case X => k_asm); (case T => k_asm); (case hk => first | exact rfl | assumption); (case N => exact News.nil); (case hv => (first | exact IsD.keeps (by assumption) (Fr.keep (by assumption)) | exact IsD.keeps (by assumption) (stays_trans (by assumption) (Fr.keep (by assumption))))); (case hd => ktr_room); (case hu => ktr_units)); intro zh9 ztk9 zF9 zhb9; (have zN9 := newsStay (by assumption) zhb9); (try dsimp only))); k_steps))
    unfold Hold
    refine LCt.CompSrcT.ledger (by rfl) (by assumption) (by assumption) (by k_mem) (by rw [sizeLine_eq]; simp) fun g' => ?_
    refine comp_allT (fun i zs => zs.length = i) ?_ (by simp) ?_
    · intro i v zs I oI C oC D m₂ h tk E' hi hv hzs hC hx F2 N2 off ne
      have hi0 : i = 0 := by simpa using hi
      subst hi0
      simp only [Off3, and_true] at off
      obtain ⟨tx, hv'⟩ : ∃ tx, v = .str (Str.ofString "x") tx := ⟨_, by simpa using hv.symm⟩
      have hpd : IsD g v (.p (.str (Str.ofString "x"))) := ⟨_, hv'⟩
      (k_steps; repeat' ((refine Hold.mk ?_; first | ((with_reducible show wpAny _ _ (call (Value.ref 460) [_, _]) _ _ _); (refine' law_fetched_ok ?B ?F ?X ?T ?hk ?N ?hg ?hs ?hv ?hd ?hu ?_; (case B => k_asm); (case F => k_asm); (case X => k_asm); (case T => k_asm); (case hk => first | exact rfl | assumption); (case N => exact News.nil); (case hv => assumption); (case hs => assumption); (case hg => (first | exact Fr.keep (by assumption) | exact stays_trans (by assumption) (Fr.keep (by assumption)))); (case hd => ktr_room); (case hu => ktr_units)); intro zr9 zh9 ztk9 zF9 zhb9 zhr9; (have zN9 := newsStay (by assumption) zhb9); (try dsimp only); refine Hold.out ?_) | ((with_reducible show wpAny _ _ (call (Value.ref 460) [_, _]) _ _ _); (refine' law_fetched_ok ?B ?F ?X ?T ?hk ?N ?hg ?hs ?hv ?hd ?hu ?_; (case B => k_asm); (case F => k_asm); (case X => k_asm); (case T => k_asm); (case hk => first | exact rfl | assumption); (case N => exact News.nil); (case hv => assumption); (case hs => assumption); (case hg => (first | exact Fr.keep (by assumption) | exact stays_trans (by assumption) (Fr.keep (by assumption)))); (case hd => ktr_room); (case hu => ktr_units)); intro zr9 zh9 ztk9 zF9 zhb9 zhr9; (have zN9 := newsStay (by assumption) zhb9); (try dsimp only)) | ((with_reducible show wpAny _ _ (call (Value.ref 472) [_]) _ _ _); (refine' law_is_count_ok ?B ?F ?X ?T ?hk ?N ?hv ?hd ?hu ?_; (case B => k_asm); (case F => k_asm); (case X => k_asm); (case T => k_asm); (case hk => first | exact rfl | assumption); (case N => exact News.nil); (case hv => (first | exact IsD.keeps (by assumption) (Fr.keep (by assumption)) | exact IsD.keeps (by assumption) (stays_trans (by assumption) (Fr.keep (by assumption))))); (case hd => ktr_room); (case hu => ktr_units)); intro zh9 ztk9 zF9 zhb9; (have zN9 := newsStay (by assumption) zhb9); (try dsimp only))); k_steps))
      unfold Hold
      exact ⟨rfl, by simp [hzs]⟩
    · intro zs hzs
      have hz1 : zs.isEmpty = false := by cases zs with | nil => simp at hzs | cons a b => rfl
      (k_steps; repeat' ((refine Hold.mk ?_; first | ((with_reducible show wpAny _ _ (call (Value.ref 460) [_, _]) _ _ _); (refine' law_fetched_ok ?B ?F ?X ?T ?hk ?N ?hg ?hs ?hv ?hd ?hu ?_; (case B => k_asm); (case F => k_asm); (case X => k_asm); (case T => k_asm); (case hk => first | exact rfl | assumption); (case N => exact News.nil); (case hv => assumption); (case hs => assumption); (case hg => (first | exact Fr.keep (by assumption) | exact stays_trans (by assumption) (Fr.keep (by assumption)))); (case hd => ktr_room); (case hu => ktr_units)); intro zr9 zh9 ztk9 zF9 zhb9 zhr9; (have zN9 := newsStay (by assumption) zhb9); (try dsimp only); refine Hold.out ?_) | ((with_reducible show wpAny _ _ (call (Value.ref 460) [_, _]) _ _ _); (refine' law_fetched_ok ?B ?F ?X ?T ?hk ?N ?hg ?hs ?hv ?hd ?hu ?_; (case B => k_asm); (case F => k_asm); (case X => k_asm); (case T => k_asm); (case hk => first | exact rfl | assumption); (case N => exact News.nil); (case hv => assumption); (case hs => assumption); (case hg => (first | exact Fr.keep (by assumption) | exact stays_trans (by assumption) (Fr.keep (by assumption)))); (case hd => ktr_room); (case hu => ktr_units)); intro zr9 zh9 ztk9 zF9 zhb9 zhr9; (have zN9 := newsStay (by assumption) zhb9); (try dsimp only)) | ((with_reducible show wpAny _ _ (call (Value.ref 472) [_]) _ _ _); (refine' law_is_count_ok ?B ?F ?X ?T ?hk ?N ?hv ?hd ?hu ?_; (case B => k_asm); (case F => k_asm); (case X => k_asm); (case T => k_asm); (case hk => first | exact rfl | assumption); (case N => exact News.nil); (case hv => (first | exact IsD.keeps (by assumption) (Fr.keep (by assumption)) | exact IsD.keeps (by assumption) (stays_trans (by assumption) (Fr.keep (by assumption))))); (case hd => ktr_room); (case hu => ktr_units)); intro zh9 ztk9 zF9 zhb9; (have zN9 := newsStay (by assumption) zhb9); (try dsimp only))); k_steps))
      unfold Hold
      rename News g1 _ _ _ => Nq
      refine eq_nil (ws := zs) Nq (List.mem_cons_of_mem _ List.mem_cons_self) List.mem_cons_self (by ktr_units) ?_
      rw [hz1]
      (k_steps; repeat' ((refine Hold.mk ?_; first | ((with_reducible show wpAny _ _ (call (Value.ref 460) [_, _]) _ _ _); (refine' law_fetched_ok ?B ?F ?X ?T ?hk ?N ?hg ?hs ?hv ?hd ?hu ?_; (case B => k_asm); (case F => k_asm); (case X => k_asm); (case T => k_asm); (case hk => first | exact rfl | assumption); (case N => exact News.nil); (case hv => assumption); (case hs => assumption); (case hg => (first | exact Fr.keep (by assumption) | exact stays_trans (by assumption) (Fr.keep (by assumption)))); (case hd => ktr_room); (case hu => ktr_units)); intro zr9 zh9 ztk9 zF9 zhb9 zhr9; (have zN9 := newsStay (by assumption) zhb9); (try dsimp only); refine Hold.out ?_) | ((with_reducible show wpAny _ _ (call (Value.ref 460) [_, _]) _ _ _); (refine' law_fetched_ok ?B ?F ?X ?T ?hk ?N ?hg ?hs ?hv ?hd ?hu ?_; (case B => k_asm); (case F => k_asm); (case X => k_asm); (case T => k_asm); (case hk => first | exact rfl | assumption); (case N => exact News.nil); (case hv => assumption); (case hs => assumption); (case hg => (first | exact Fr.keep (by assumption) | exact stays_trans (by assumption) (Fr.keep (by assumption)))); (case hd => ktr_room); (case hu => ktr_units)); intro zr9 zh9 ztk9 zF9 zhb9 zhr9; (have zN9 := newsStay (by assumption) zhb9); (try dsimp only)) | ((with_reducible show wpAny _ _ (call (Value.ref 472) [_]) _ _ _); (refine' law_is_count_ok ?B ?F ?X ?T ?hk ?N ?hv ?hd ?hu ?_; (case B => k_asm); (case F => k_asm); (case X => k_asm); (case T => k_asm); (case hk => first | exact rfl | assumption); (case N => exact News.nil); (case hv => (first | exact IsD.keeps (by assumption) (Fr.keep (by assumption)) | exact IsD.keeps (by assumption) (stays_trans (by assumption) (Fr.keep (by assumption))))); (case hd => ktr_room); (case hu => ktr_units)); intro zh9 ztk9 zF9 zhb9; (have zN9 := newsStay (by assumption) zhb9); (try dsimp only))); k_steps))
      refine ret _ _ _ (by assumption) (But.ofFr hB1 (by assumption)) (by rw [hc]; exact ⟨_, rfl⟩) (fun _ q => nomatch q)
end

set_option maxRecDepth 100000
set_option maxHeartbeats 8000000

noncomputable def widthsC : C → C
  | .ns l => if l.length = 3 ∧ ∀ x ∈ l, x ≤ 8 then .ns l else .bad
  | _ => .bad
noncomputable def numsC (c : C) (d : D) : C := match c with
  | .none => (match d with
    | .p (.int i) => if 0 ≤ i then .ns [0, i] else .bad
    | _ => .bad)
  | .bad => .bad
  | .ns l => if l.length % 2 = 1 then .bad else .ns l
theorem widthsC_bad {l : List Int} (h : ¬ (l.length = 3 ∧ ∀ x ∈ l, x ≤ 8)) : widthsC (.ns l) = .bad := if_neg h
theorem widthsC_ok {l : List Int} (h : l.length = 3 ∧ ∀ x ∈ l, x ≤ 8) : widthsC (.ns l) = .ns l := if_pos h
theorem numsC_bad {l : List Int} {d : D} (h : l.length % 2 = 1) : numsC (.ns l) d = .bad := if_pos h
theorem numsC_ok {l : List Int} {d : D} (h : ¬ l.length % 2 = 1) : numsC (.ns l) d = .ns l := if_neg h
theorem numsC_size {d : D} {i : Int} (h : d = .p (.int i)) (h0 : 0 ≤ i) : numsC .none d = .ns [0, i] := by subst h; exact if_pos h0
theorem numsC_none {d : D} (h : d.cnt = false) : numsC .none d = .bad := by
  unfold numsC
  split
  · split
    · rename_i i
      have : ¬ 0 ≤ i := of_decide_eq_false h
      rw [if_neg this]
    · rfl
  · rfl
  · rename_i e; cases e
theorem news1 {h₀ h h' : Heap} {L a : Addr} {m : Str → Option Value} {o : Obj} (F : Fr h₀ L h m) (e : h'.get? a = some o) (n : h.get? a = none) : News h₀ L h' [(a, o)] := fun p hp => by
  rw [List.mem_singleton.mp hp]
  refine ⟨e, fun q => ?_, ?_⟩
  · obtain ⟨ol, _, _, h1, _⟩ := F.ns
    rw [show a = L from q] at n
    rw [n] at h1; cases h1
  · cases q : h₀.get? a with
    | none => rfl
    | some o' => have := F.keep _ _ q; rw [n] at this; cases this
local macro_rules | `(tactic| walk_at "call ref") => `(tactic| refine holdAt 387 ?_)
section
local macro_rules | `(tactic| walk_at "call builtin:max") => `(tactic| refine Hold.out ?_)
theorem widths_in_ok {w : World} {mean : ExcName → Option Value} {mg mb : Str → Option Value} {dp un : Nat} {gd : Option (List Code)} {cn : Str} {cs : Scope} {a : Addr} {ccd : Value} {cl : List (Str × Addr)} {outer : List Env} {A₀ : Around} {base h₀ : Heap} {L : Addr} {m : Str → Option Value} {s : Shared} {Q E : Value → Shared → Prop}
    (B : Below A₀ base outer h₀) (F : Fr h₀ L s.heap m) (X : (hd.heap_1 w.params).In h₀) (T : Top view (looseW view looseN) mean mg mb h₀) (hk : cs.kind = .function)
    {sv : Value} {t : Addr} {T' : List (Int × D)} {H : List (Str × D)} {g : Heap}
    (N : News h₀ L s.heap []) (hg : ∀ b o, g.get? b = some o → s.heap.get? b = some o) (hsv : IsShelf w g sv T') (hh : IsHead w g t H)
    (hd : dp + 230 < recursionLimit) (hu : un + 230 < cLine)
    (exc : ∀ e h' tk', Fl (envX cn cs L a ccd cl :: outer) s.heap e h' → widthsC (cntD (fetchK T' 30) (headAt H (Str.ofString "W"))) = .bad → E (.ref e) { s with heap := h', toks := tk' })
    (ret : ∀ (r : Value) h' tk', Fr h₀ L h' m → But [] s.heap h' → widthsC (cntD (fetchK T' 30) (headAt H (Str.ofString "W"))) ≠ .bad → IsC h' r (widthsC (cntD (fetchK T' 30) (headAt H (Str.ofString "W")))) → (∀ a, r = .ref a → s.heap.get? a = none) → Q (r) { s with heap := h', toks := tk' }) :
    wpAny (model PySem.Challenge.rw_nn0123_01.row.prog w) (ktrTop dp un gd cn cs L a ccd cl outer) (call (.ref 394) [sv, .ref t]) Q E s := by
  revert X; k_fill; intro X
  have hsv' := hsv
  obtain ⟨x, dx, es, n, t', rfl, h1s, h2s, h3, h4, h5, h6⟩ := hsv
  refine wpAny_call ?_
  k_dflt (refine' code_defH (binds := [(Str.ofString "shelf", .ref x), (Str.ofString "head", .ref t)]) ?k1 ?k2 ?k3 ?k4 ?k5 ?kA ?kF ?kK ?k6 ?k7 ?k8 ?k9 ?kB ?_ ?c2 ?c3 ?c4 ?c5; (case kA => exact rfl); (case kF => exact rfl); (case kK => assumption); (case k1 => k_asm); (case k2 => k_asm); (case k3 => k_asm); (case k4 => k_asm); (case k5 => k_asm); (case k6 => k_is); (case k7 => k_is); (case k8 => ktr_room); (case k9 => exact BindsTo.of_eq rfl); (case c5 => decide); (case kB => exact locs rfl); (case c2 => exact rfl); (case c3 => exact rfl); (case c4 => exact rfl); k_whole)
  intro g1 L1 h1 FG1 F1 N1 B1 X1 T1 hB1 hS1 hL1 hZ1
  (try dsimp only)
  (try simp only [AllLt, and_true] at hL1)
  (try k_fold)
  have hk2 : ∀ b o, g.get? b = some o → g1.get? b = some o := fun b o e => hB1 b o (hg b o e) (by simp)
  have hk1 : ∀ b o, s.heap.get? b = some o → g1.get? b = some o := fun b o e => hB1 b o e (by simp)
  have h1s := hk2 _ _ h1s
  have h2s := hk2 _ _ h2s
  (k_steps; repeat' ((refine Hold.mk ?_; first | ((with_reducible show wpAny _ _ (call (Value.ref 387) [_, _, _]) _ _ _); (refine' counts_in_ok ?B ?F ?X ?T ?hk ?N ?hg ?hs ?hh ?hl ?hd ?hu ?_ ?_; (case B => k_asm); (case F => k_asm); (case X => k_asm); (case T => k_asm); (case hk => first | exact rfl | assumption); (case N => exact News.nil); (case hl => decide); (case hh => assumption); (case hs => assumption); (case hg => (first | exact Fr.keep (by assumption) | exact stays_trans (by assumption) (Fr.keep (by assumption)))); (case hd => ktr_room); (case hu => ktr_units)); (all_goals (first | (intro ze9 zh9 ztk9 zfl9 zhb9; (try dsimp only); (refine' leave_next ?K ?F zfl9 ?hc ?_; (case K => assumption); (case F => assumption); (case hc => assumption)); intro zh8 zfl8; (try dsimp only); refine Hold.out ?_) | (intro zr9 zh9 ztk9 zF9 zhb9 zhn9 zhr9 zhf9; (have zN9 := newsStay (by assumption) zhb9); (try dsimp only); refine Hold.out ?_)))) | ((with_reducible show wpAny _ _ (call (Value.ref 59) [Value.str _ _]) _ _ _); (refine' cross_made ?B ?F ?X ?T ?hk ?hd ?hu ?_; (case B => k_asm); (case F => k_asm); (case X => k_asm); (case T => k_asm); (case hk => first | exact rfl | assumption); (case hd => ktr_room); (case hu => ktr_units)); (intro ze9 zt9 zdd9 zh9 ztk9 zhen9 zhe9 zhtn9 zht9 zhb9); (refine ⟨ze9, zt9, zdd9, rfl, stays_trans (Fr.keep (by assumption)) zhb9.stays, zhe9, ?_⟩)) | ((with_reducible show wpAny _ _ (call (Value.ref 380) [_]) _ _ _); (refine' is_count_ok ?B ?F ?X ?T ?hk ?N ?hv ?hd ?hu ?_; (case B => k_asm); (case F => k_asm); (case X => k_asm); (case T => k_asm); (case hk => first | exact rfl | assumption); (case N => exact News.nil); (case hv => (first | exact IsD.keeps (by assumption) (Fr.keep (by assumption)) | exact IsD.keeps (by assumption) (stays_trans (by assumption) (Fr.keep (by assumption))))); (case hd => ktr_room); (case hu => ktr_units)); intro zh9 ztk9 zF9 zhb9; (have zN9 := newsStay (by assumption) zhb9); (try dsimp only)) | ((with_reducible show wpAny _ _ (call (Value.ref 313) [_, _, _]) _ _ _); (refine' get_ok ?B ?F ?X ?T ?hk ?N ?hg ?hs ?hh ?hd ?hu ?_; (case B => k_asm); (case F => k_asm); (case X => k_asm); (case T => k_asm); (case hk => first | exact rfl | assumption); (case N => exact News.nil); (case hh => assumption); (case hs => assumption); (case hg => (first | exact Fr.keep (by assumption) | exact stays_trans (by assumption) (Fr.keep (by assumption)))); (case hd => ktr_room); (case hu => ktr_units)); intro zr9 zh9 ztk9 zF9 zhb9 zhr9; (have zN9 := newsStay (by assumption) zhb9); (try dsimp only); refine Hold.out ?_)); k_steps))
  · unfold Hold
    rename cntD _ _ = C.bad => hb8
    exact exc _ _ _ (by assumption) (by rw [hb8]; rfl)
  · unfold Hold
    rename IsC _ _ _ => hr9
    rename cntD _ _ ≠ _ => hn9
    rename ∀ a, _ = Value.ref a → _ => hf9
    generalize hdat : cntD (fetchK T' 30) (headAt H (Str.ofString "W")) = dd at hr9 hn9 exc ret
    cases dd with
    | bad => exact absurd rfl hn9
    | none =>
      cases hr9
      (k_steps; repeat' ((refine Hold.mk ?_; first | ((with_reducible show wpAny _ _ (call (Value.ref 387) [_, _, _]) _ _ _); (refine' counts_in_ok ?B ?F ?X ?T ?hk ?N ?hg ?hs ?hh ?hl ?hd ?hu ?_ ?_; (case B => k_asm); (case F => k_asm); (case X => k_asm); (case T => k_asm); (case hk => first | exact rfl | assumption); (case N => exact News.nil); (case hl => decide); (case hh => assumption); (case hs => assumption); (case hg => (first | exact Fr.keep (by assumption) | exact stays_trans (by assumption) (Fr.keep (by assumption)))); (case hd => ktr_room); (case hu => ktr_units)); (all_goals (first | (intro ze9 zh9 ztk9 zfl9 zhb9; (try dsimp only); (refine' leave_next ?K ?F zfl9 ?hc ?_; (case K => assumption); (case F => assumption); (case hc => assumption)); intro zh8 zfl8; (try dsimp only); refine Hold.out ?_) | (intro zr9 zh9 ztk9 zF9 zhb9 zhn9 zhr9 zhf9; (have zN9 := newsStay (by assumption) zhb9); (try dsimp only); refine Hold.out ?_)))) | ((with_reducible show wpAny _ _ (call (Value.ref 59) [Value.str _ _]) _ _ _); (refine' cross_made ?B ?F ?X ?T ?hk ?hd ?hu ?_; (case B => k_asm); (case F => k_asm); (case X => k_asm); (case T => k_asm); (case hk => first | exact rfl | assumption); (case hd => ktr_room); (case hu => ktr_units)); (intro ze9 zt9 zdd9 zh9 ztk9 zhen9 zhe9 zhtn9 zht9 zhb9); (refine ⟨ze9, zt9, zdd9, rfl, stays_trans (Fr.keep (by assumption)) zhb9.stays, zhe9, ?_⟩)) | ((with_reducible show wpAny _ _ (call (Value.ref 380) [_]) _ _ _); (refine' is_count_ok ?B ?F ?X ?T ?hk ?N ?hv ?hd ?hu ?_; (case B => k_asm); (case F => k_asm); (case X => k_asm); (case T => k_asm); (case hk => first | exact rfl | assumption); (case N => exact News.nil); (case hv => (first | exact IsD.keeps (by assumption) (Fr.keep (by assumption)) | exact IsD.keeps (by assumption) (stays_trans (by assumption) (Fr.keep (by assumption))))); (case hd => ktr_room); (case hu => ktr_units)); intro zh9 ztk9 zF9 zhb9; (have zN9 := newsStay (by assumption) zhb9); (try dsimp only)) | ((with_reducible show wpAny _ _ (call (Value.ref 313) [_, _, _]) _ _ _); (refine' get_ok ?B ?F ?X ?T ?hk ?N ?hg ?hs ?hh ?hd ?hu ?_; (case B => k_asm); (case F => k_asm); (case X => k_asm); (case T => k_asm); (case hk => first | exact rfl | assumption); (case N => exact News.nil); (case hh => assumption); (case hs => assumption); (case hg => (first | exact Fr.keep (by assumption) | exact stays_trans (by assumption) (Fr.keep (by assumption)))); (case hd => ktr_room); (case hu => ktr_units)); intro zr9 zh9 ztk9 zF9 zhb9 zhr9; (have zN9 := newsStay (by assumption) zhb9); (try dsimp only); refine Hold.out ?_)); k_steps))
      exact exc _ _ _ (by assumption) rfl
    | ns l =>
      obtain ⟨la, vs, ln, rfl, hl1, hl2, hl3⟩ := hr9
      have hlen := hl2.length
      have Nl := news1 (by assumption) hl1 (hf9 _ rfl)
      rename News g1 _ _ [] => Nold
      clear Nold
      (k_steps; repeat' ((refine Hold.mk ?_; first | ((with_reducible show wpAny _ _ (call (Value.ref 387) [_, _, _]) _ _ _); (refine' counts_in_ok ?B ?F ?X ?T ?hk ?N ?hg ?hs ?hh ?hl ?hd ?hu ?_ ?_; (case B => k_asm); (case F => k_asm); (case X => k_asm); (case T => k_asm); (case hk => first | exact rfl | assumption); (case N => exact News.nil); (case hl => decide); (case hh => assumption); (case hs => assumption); (case hg => (first | exact Fr.keep (by assumption) | exact stays_trans (by assumption) (Fr.keep (by assumption)))); (case hd => ktr_room); (case hu => ktr_units)); (all_goals (first | (intro ze9 zh9 ztk9 zfl9 zhb9; (try dsimp only); (refine' leave_next ?K ?F zfl9 ?hc ?_; (case K => assumption); (case F => assumption); (case hc => assumption)); intro zh8 zfl8; (try dsimp only); refine Hold.out ?_) | (intro zr9 zh9 ztk9 zF9 zhb9 zhn9 zhr9 zhf9; (have zN9 := newsStay (by assumption) zhb9); (try dsimp only); refine Hold.out ?_)))) | ((with_reducible show wpAny _ _ (call (Value.ref 59) [Value.str _ _]) _ _ _); (refine' cross_made ?B ?F ?X ?T ?hk ?hd ?hu ?_; (case B => k_asm); (case F => k_asm); (case X => k_asm); (case T => k_asm); (case hk => first | exact rfl | assumption); (case hd => ktr_room); (case hu => ktr_units)); (intro ze9 zt9 zdd9 zh9 ztk9 zhen9 zhe9 zhtn9 zht9 zhb9); (refine ⟨ze9, zt9, zdd9, rfl, stays_trans (Fr.keep (by assumption)) zhb9.stays, zhe9, ?_⟩)) | ((with_reducible show wpAny _ _ (call (Value.ref 380) [_]) _ _ _); (refine' is_count_ok ?B ?F ?X ?T ?hk ?N ?hv ?hd ?hu ?_; (case B => k_asm); (case F => k_asm); (case X => k_asm); (case T => k_asm); (case hk => first | exact rfl | assumption); (case N => exact News.nil); (case hv => (first | exact IsD.keeps (by assumption) (Fr.keep (by assumption)) | exact IsD.keeps (by assumption) (stays_trans (by assumption) (Fr.keep (by assumption))))); (case hd => ktr_room); (case hu => ktr_units)); intro zh9 ztk9 zF9 zhb9; (have zN9 := newsStay (by assumption) zhb9); (try dsimp only)) | ((with_reducible show wpAny _ _ (call (Value.ref 313) [_, _, _]) _ _ _); (refine' get_ok ?B ?F ?X ?T ?hk ?N ?hg ?hs ?hh ?hd ?hu ?_; (case B => k_asm); (case F => k_asm); (case X => k_asm); (case T => k_asm); (case hk => first | exact rfl | assumption); (case N => exact News.nil); (case hh => assumption); (case hs => assumption); (case hg => (first | exact Fr.keep (by assumption) | exact stays_trans (by assumption) (Fr.keep (by assumption)))); (case hd => ktr_room); (case hu => ktr_units)); intro zr9 zh9 ztk9 zF9 zhb9 zhr9; (have zN9 := newsStay (by assumption) zhb9); (try dsimp only); refine Hold.out ?_)); k_steps))
      · refine exc _ _ _ (by assumption) ?_
        refine widthsC_bad ?_
        rintro ⟨h1, _⟩
        omega
      · unfold Hold
        rename News g1 _ _ _ => Nz
        rename Fr g1 _ _ _ => Fz
        have hl3' : l.length = 3 := by omega
        refine kso_max Fz Nz (kso_isList Nz List.mem_cons_self rfl) hl2 (by omega) (by rfl) ?_
        intro h8 M t8 tk8 F8 N8 hM1 hM2
        (k_steps; repeat' ((refine Hold.mk ?_; first | ((with_reducible show wpAny _ _ (call (Value.ref 387) [_, _, _]) _ _ _); (refine' counts_in_ok ?B ?F ?X ?T ?hk ?N ?hg ?hs ?hh ?hl ?hd ?hu ?_ ?_; (case B => k_asm); (case F => k_asm); (case X => k_asm); (case T => k_asm); (case hk => first | exact rfl | assumption); (case N => exact News.nil); (case hl => decide); (case hh => assumption); (case hs => assumption); (case hg => (first | exact Fr.keep (by assumption) | exact stays_trans (by assumption) (Fr.keep (by assumption)))); (case hd => ktr_room); (case hu => ktr_units)); (all_goals (first | (intro ze9 zh9 ztk9 zfl9 zhb9; (try dsimp only); (refine' leave_next ?K ?F zfl9 ?hc ?_; (case K => assumption); (case F => assumption); (case hc => assumption)); intro zh8 zfl8; (try dsimp only); refine Hold.out ?_) | (intro zr9 zh9 ztk9 zF9 zhb9 zhn9 zhr9 zhf9; (have zN9 := newsStay (by assumption) zhb9); (try dsimp only); refine Hold.out ?_)))) | ((with_reducible show wpAny _ _ (call (Value.ref 59) [Value.str _ _]) _ _ _); (refine' cross_made ?B ?F ?X ?T ?hk ?hd ?hu ?_; (case B => k_asm); (case F => k_asm); (case X => k_asm); (case T => k_asm); (case hk => first | exact rfl | assumption); (case hd => ktr_room); (case hu => ktr_units)); (intro ze9 zt9 zdd9 zh9 ztk9 zhen9 zhe9 zhtn9 zht9 zhb9); (refine ⟨ze9, zt9, zdd9, rfl, stays_trans (Fr.keep (by assumption)) zhb9.stays, zhe9, ?_⟩)) | ((with_reducible show wpAny _ _ (call (Value.ref 380) [_]) _ _ _); (refine' is_count_ok ?B ?F ?X ?T ?hk ?N ?hv ?hd ?hu ?_; (case B => k_asm); (case F => k_asm); (case X => k_asm); (case T => k_asm); (case hk => first | exact rfl | assumption); (case N => exact News.nil); (case hv => (first | exact IsD.keeps (by assumption) (Fr.keep (by assumption)) | exact IsD.keeps (by assumption) (stays_trans (by assumption) (Fr.keep (by assumption))))); (case hd => ktr_room); (case hu => ktr_units)); intro zh9 ztk9 zF9 zhb9; (have zN9 := newsStay (by assumption) zhb9); (try dsimp only)) | ((with_reducible show wpAny _ _ (call (Value.ref 313) [_, _, _]) _ _ _); (refine' get_ok ?B ?F ?X ?T ?hk ?N ?hg ?hs ?hh ?hd ?hu ?_; (case B => k_asm); (case F => k_asm); (case X => k_asm); (case T => k_asm); (case hk => first | exact rfl | assumption); (case N => exact News.nil); (case hh => assumption); (case hs => assumption); (case hg => (first | exact Fr.keep (by assumption) | exact stays_trans (by assumption) (Fr.keep (by assumption)))); (case hd => ktr_room); (case hu => ktr_units)); intro zr9 zh9 ztk9 zF9 zhb9 zhr9; (have zN9 := newsStay (by assumption) zhb9); (try dsimp only); refine Hold.out ?_)); k_steps))
        · refine exc _ _ _ (by assumption) ?_
          refine widthsC_bad ?_
          rintro ⟨_, h1⟩
          have := h1 _ hM1
          omega
        · have hl' := N8 _ List.mem_cons_self
          have hw : widthsC (.ns l) = .ns l := widthsC_ok ⟨hl3', fun x hx => by have := hM2 x hx; omega⟩
          rw [hw] at ret
          refine ret _ _ _ (by assumption) (But.ofFr hB1 (by assumption)) (fun q => nomatch q) ⟨_, vs, _, rfl, hl'.1, hl2, hl3⟩ (fun a e => ?_)
          cases e
          cases hq : s.heap.get? _ with
          | none => rfl
          | some o => exact absurd (hk1 _ _ hq) (by rw [hl'.2.2]; exact fun q => nomatch q)
end
theorem numbers_in_ok {w : World} {mean : ExcName → Option Value} {mg mb : Str → Option Value} {dp un : Nat} {gd : Option (List Code)} {cn : Str} {cs : Scope} {a : Addr} {ccd : Value} {cl : List (Str × Addr)} {outer : List Env} {A₀ : Around} {base h₀ : Heap} {L : Addr} {m : Str → Option Value} {s : Shared} {Q E : Value → Shared → Prop}
    (B : Below A₀ base outer h₀) (F : Fr h₀ L s.heap m) (X : (hd.heap_1 w.params).In h₀) (T : Top view (looseW view looseN) mean mg mb h₀) (hk : cs.kind = .function)
    {sv : Value} {t : Addr} {T' : List (Int × D)} {H : List (Str × D)} {g : Heap}
    (N : News h₀ L s.heap []) (hg : ∀ b o, g.get? b = some o → s.heap.get? b = some o) (hsv : IsShelf w g sv T') (hh : IsHead w g t H)
    (hd : dp + 230 < recursionLimit) (hu : un + 230 < cLine)
    (exc : ∀ e h' tk', Fl (envX cn cs L a ccd cl :: outer) s.heap e h' → numsC (cntD (fetchK T' 30) (headAt H (Str.ofString "Index"))) (fetchK T' 30 (headAt H (Str.ofString "Size"))) = .bad → E (.ref e) { s with heap := h', toks := tk' })
    (ret : ∀ (r : Value) h' tk', Fr h₀ L h' m → But [] s.heap h' → numsC (cntD (fetchK T' 30) (headAt H (Str.ofString "Index"))) (fetchK T' 30 (headAt H (Str.ofString "Size"))) ≠ .bad → IsC h' r (numsC (cntD (fetchK T' 30) (headAt H (Str.ofString "Index"))) (fetchK T' 30 (headAt H (Str.ofString "Size")))) → (∀ a, r = .ref a → s.heap.get? a = none) → Q (r) { s with heap := h', toks := tk' }) :
    wpAny (model PySem.Challenge.rw_nn0123_01.row.prog w) (ktrTop dp un gd cn cs L a ccd cl outer) (call (.ref 401) [sv, .ref t]) Q E s := by
  revert X; k_fill; intro X
  have hsv' := hsv
  obtain ⟨x, dx, es, n, t', rfl, h1s, h2s, h3, h4, h5, h6⟩ := hsv
  refine wpAny_call ?_
  k_dflt (refine' code_defH (binds := [(Str.ofString "shelf", .ref x), (Str.ofString "head", .ref t)]) ?k1 ?k2 ?k3 ?k4 ?k5 ?kA ?kF ?kK ?k6 ?k7 ?k8 ?k9 ?kB ?_ ?c2 ?c3 ?c4 ?c5; (case kA => exact rfl); (case kF => exact rfl); (case kK => assumption); (case k1 => k_asm); (case k2 => k_asm); (case k3 => k_asm); (case k4 => k_asm); (case k5 => k_asm); (case k6 => k_is); (case k7 => k_is); (case k8 => ktr_room); (case k9 => exact BindsTo.of_eq rfl); (case c5 => decide); (case kB => exact locs rfl); (case c2 => exact rfl); (case c3 => exact rfl); (case c4 => exact rfl); k_whole)
  intro g1 L1 h1 FG1 F1 N1 B1 X1 T1 hB1 hS1 hL1 hZ1
  (try dsimp only)
  (try simp only [AllLt, and_true] at hL1)
  (try k_fold)
  have hk2 : ∀ b o, g.get? b = some o → g1.get? b = some o := fun b o e => hB1 b o (hg b o e) (by simp)
  have hk1 : ∀ b o, s.heap.get? b = some o → g1.get? b = some o := fun b o e => hB1 b o e (by simp)
  have h1s := hk2 _ _ h1s
  have h2s := hk2 _ _ h2s
  (k_steps; repeat' ((refine Hold.mk ?_; first | ((with_reducible show wpAny _ _ (call (Value.ref 387) [_, _, _]) _ _ _); (refine' counts_in_ok ?B ?F ?X ?T ?hk ?N ?hg ?hs ?hh ?hl ?hd ?hu ?_ ?_; (case B => k_asm); (case F => k_asm); (case X => k_asm); (case T => k_asm); (case hk => first | exact rfl | assumption); (case N => exact News.nil); (case hl => decide); (case hh => assumption); (case hs => assumption); (case hg => (first | exact Fr.keep (by assumption) | exact stays_trans (by assumption) (Fr.keep (by assumption)))); (case hd => ktr_room); (case hu => ktr_units)); (all_goals (first | (intro ze9 zh9 ztk9 zfl9 zhb9; (try dsimp only); (refine' leave_next ?K ?F zfl9 ?hc ?_; (case K => assumption); (case F => assumption); (case hc => assumption)); intro zh8 zfl8; (try dsimp only); refine Hold.out ?_) | (intro zr9 zh9 ztk9 zF9 zhb9 zhn9 zhr9 zhf9; (have zN9 := newsStay (by assumption) zhb9); (try dsimp only); refine Hold.out ?_)))) | ((with_reducible show wpAny _ _ (call (Value.ref 59) [Value.str _ _]) _ _ _); (refine' cross_made ?B ?F ?X ?T ?hk ?hd ?hu ?_; (case B => k_asm); (case F => k_asm); (case X => k_asm); (case T => k_asm); (case hk => first | exact rfl | assumption); (case hd => ktr_room); (case hu => ktr_units)); (intro ze9 zt9 zdd9 zh9 ztk9 zhen9 zhe9 zhtn9 zht9 zhb9); (refine ⟨ze9, zt9, zdd9, rfl, stays_trans (Fr.keep (by assumption)) zhb9.stays, zhe9, ?_⟩)) | ((with_reducible show wpAny _ _ (call (Value.ref 380) [_]) _ _ _); (refine' is_count_ok ?B ?F ?X ?T ?hk ?N ?hv ?hd ?hu ?_; (case B => k_asm); (case F => k_asm); (case X => k_asm); (case T => k_asm); (case hk => first | exact rfl | assumption); (case N => exact News.nil); (case hv => (first | exact IsD.keeps (by assumption) (Fr.keep (by assumption)) | exact IsD.keeps (by assumption) (stays_trans (by assumption) (Fr.keep (by assumption))))); (case hd => ktr_room); (case hu => ktr_units)); intro zh9 ztk9 zF9 zhb9; (have zN9 := newsStay (by assumption) zhb9); (try dsimp only)) | ((with_reducible show wpAny _ _ (call (Value.ref 313) [_, _, _]) _ _ _); (refine' get_ok ?B ?F ?X ?T ?hk ?N ?hg ?hs ?hh ?hd ?hu ?_; (case B => k_asm); (case F => k_asm); (case X => k_asm); (case T => k_asm); (case hk => first | exact rfl | assumption); (case N => exact News.nil); (case hh => assumption); (case hs => assumption); (case hg => (first | exact Fr.keep (by assumption) | exact stays_trans (by assumption) (Fr.keep (by assumption)))); (case hd => ktr_room); (case hu => ktr_units)); intro zr9 zh9 ztk9 zF9 zhb9 zhr9; (have zN9 := newsStay (by assumption) zhb9); (try dsimp only); refine Hold.out ?_)); k_steps))
  · unfold Hold
    rename cntD _ _ = C.bad => hb8
    exact exc _ _ _ (by assumption) (by rw [hb8]; rfl)
  · unfold Hold
    rename IsC _ _ _ => hr9
    rename cntD _ _ ≠ _ => hn9
    rename ∀ a, _ = Value.ref a → _ => hf9
    generalize hdat : cntD (fetchK T' 30) (headAt H (Str.ofString "Index")) = dd at hr9 hn9 exc ret
    cases dd with
    | bad => exact absurd rfl hn9
    | none =>
      cases hr9
      (k_steps; repeat' ((refine Hold.mk ?_; first | ((with_reducible show wpAny _ _ (call (Value.ref 387) [_, _, _]) _ _ _); (refine' counts_in_ok ?B ?F ?X ?T ?hk ?N ?hg ?hs ?hh ?hl ?hd ?hu ?_ ?_; (case B => k_asm); (case F => k_asm); (case X => k_asm); (case T => k_asm); (case hk => first | exact rfl | assumption); (case N => exact News.nil); (case hl => decide); (case hh => assumption); (case hs => assumption); (case hg => (first | exact Fr.keep (by assumption) | exact stays_trans (by assumption) (Fr.keep (by assumption)))); (case hd => ktr_room); (case hu => ktr_units)); (all_goals (first | (intro ze9 zh9 ztk9 zfl9 zhb9; (try dsimp only); (refine' leave_next ?K ?F zfl9 ?hc ?_; (case K => assumption); (case F => assumption); (case hc => assumption)); intro zh8 zfl8; (try dsimp only); refine Hold.out ?_) | (intro zr9 zh9 ztk9 zF9 zhb9 zhn9 zhr9 zhf9; (have zN9 := newsStay (by assumption) zhb9); (try dsimp only); refine Hold.out ?_)))) | ((with_reducible show wpAny _ _ (call (Value.ref 59) [Value.str _ _]) _ _ _); (refine' cross_made ?B ?F ?X ?T ?hk ?hd ?hu ?_; (case B => k_asm); (case F => k_asm); (case X => k_asm); (case T => k_asm); (case hk => first | exact rfl | assumption); (case hd => ktr_room); (case hu => ktr_units)); (intro ze9 zt9 zdd9 zh9 ztk9 zhen9 zhe9 zhtn9 zht9 zhb9); (refine ⟨ze9, zt9, zdd9, rfl, stays_trans (Fr.keep (by assumption)) zhb9.stays, zhe9, ?_⟩)) | ((with_reducible show wpAny _ _ (call (Value.ref 380) [_]) _ _ _); (refine' is_count_ok ?B ?F ?X ?T ?hk ?N ?hv ?hd ?hu ?_; (case B => k_asm); (case F => k_asm); (case X => k_asm); (case T => k_asm); (case hk => first | exact rfl | assumption); (case N => exact News.nil); (case hv => (first | exact IsD.keeps (by assumption) (Fr.keep (by assumption)) | exact IsD.keeps (by assumption) (stays_trans (by assumption) (Fr.keep (by assumption))))); (case hd => ktr_room); (case hu => ktr_units)); intro zh9 ztk9 zF9 zhb9; (have zN9 := newsStay (by assumption) zhb9); (try dsimp only)) | ((with_reducible show wpAny _ _ (call (Value.ref 313) [_, _, _]) _ _ _); (refine' get_ok ?B ?F ?X ?T ?hk ?N ?hg ?hs ?hh ?hd ?hu ?_; (case B => k_asm); (case F => k_asm); (case X => k_asm); (case T => k_asm); (case hk => first | exact rfl | assumption); (case N => exact News.nil); (case hh => assumption); (case hs => assumption); (case hg => (first | exact Fr.keep (by assumption) | exact stays_trans (by assumption) (Fr.keep (by assumption)))); (case hd => ktr_room); (case hu => ktr_units)); intro zr9 zh9 ztk9 zF9 zhb9 zhr9; (have zN9 := newsStay (by assumption) zhb9); (try dsimp only); refine Hold.out ?_)); k_steps))
      unfold Hold
      rename IsD g _ (fetchK _ _ _) => hr9
      generalize hdat2 : fetchK T' 30 (headAt H (Str.ofString "Size")) = dd at hr9 exc ret
      (k_steps; repeat' ((refine Hold.mk ?_; first | ((with_reducible show wpAny _ _ (call (Value.ref 387) [_, _, _]) _ _ _); (refine' counts_in_ok ?B ?F ?X ?T ?hk ?N ?hg ?hs ?hh ?hl ?hd ?hu ?_ ?_; (case B => k_asm); (case F => k_asm); (case X => k_asm); (case T => k_asm); (case hk => first | exact rfl | assumption); (case N => exact News.nil); (case hl => decide); (case hh => assumption); (case hs => assumption); (case hg => (first | exact Fr.keep (by assumption) | exact stays_trans (by assumption) (Fr.keep (by assumption)))); (case hd => ktr_room); (case hu => ktr_units)); (all_goals (first | (intro ze9 zh9 ztk9 zfl9 zhb9; (try dsimp only); (refine' leave_next ?K ?F zfl9 ?hc ?_; (case K => assumption); (case F => assumption); (case hc => assumption)); intro zh8 zfl8; (try dsimp only); refine Hold.out ?_) | (intro zr9 zh9 ztk9 zF9 zhb9 zhn9 zhr9 zhf9; (have zN9 := newsStay (by assumption) zhb9); (try dsimp only); refine Hold.out ?_)))) | ((with_reducible show wpAny _ _ (call (Value.ref 59) [Value.str _ _]) _ _ _); (refine' cross_made ?B ?F ?X ?T ?hk ?hd ?hu ?_; (case B => k_asm); (case F => k_asm); (case X => k_asm); (case T => k_asm); (case hk => first | exact rfl | assumption); (case hd => ktr_room); (case hu => ktr_units)); (intro ze9 zt9 zdd9 zh9 ztk9 zhen9 zhe9 zhtn9 zht9 zhb9); (refine ⟨ze9, zt9, zdd9, rfl, stays_trans (Fr.keep (by assumption)) zhb9.stays, zhe9, ?_⟩)) | ((with_reducible show wpAny _ _ (call (Value.ref 380) [_]) _ _ _); (refine' is_count_ok ?B ?F ?X ?T ?hk ?N ?hv ?hd ?hu ?_; (case B => k_asm); (case F => k_asm); (case X => k_asm); (case T => k_asm); (case hk => first | exact rfl | assumption); (case N => exact News.nil); (case hv => (first | exact IsD.keeps (by assumption) (Fr.keep (by assumption)) | exact IsD.keeps (by assumption) (stays_trans (by assumption) (Fr.keep (by assumption))))); (case hd => ktr_room); (case hu => ktr_units)); intro zh9 ztk9 zF9 zhb9; (have zN9 := newsStay (by assumption) zhb9); (try dsimp only)) | ((with_reducible show wpAny _ _ (call (Value.ref 313) [_, _, _]) _ _ _); (refine' get_ok ?B ?F ?X ?T ?hk ?N ?hg ?hs ?hh ?hd ?hu ?_; (case B => k_asm); (case F => k_asm); (case X => k_asm); (case T => k_asm); (case hk => first | exact rfl | assumption); (case N => exact News.nil); (case hh => assumption); (case hs => assumption); (case hg => (first | exact Fr.keep (by assumption) | exact stays_trans (by assumption) (Fr.keep (by assumption)))); (case hd => ktr_room); (case hu => ktr_units)); intro zr9 zh9 ztk9 zF9 zhb9 zhr9; (have zN9 := newsStay (by assumption) zhb9); (try dsimp only); refine Hold.out ?_)); k_steps))
      · rename Mine.D.cnt _ = true => hcn
        obtain ⟨i, rfl, hi0⟩ := cnt_int hcn
        obtain ⟨ti, rfl⟩ := hr9
        rename News g1 _ _ [_] => Nz
        have hl' := Nz _ List.mem_cons_self
        rw [numsC_size rfl hi0] at ret
        refine ret _ _ _ (by assumption) (But.ofFr hB1 (by assumption)) (fun q => nomatch q) ⟨_, _, _, rfl, hl'.1, .cons _ _ (.cons _ _ .nil), by simp⟩ (fun a e => ?_)
        cases e
        cases hq : s.heap.get? _ with
        | none => rfl
        | some o => exact absurd (hk1 _ _ hq) (by rw [hl'.2.2]; exact fun q => nomatch q)
      · exact exc _ _ _ (by assumption) (numsC_none (by assumption))
    | ns l =>
      obtain ⟨la, vs, ln, rfl, hl1, hl2, hl3⟩ := hr9
      have hlen := hl2.length
      have Nl := news1 (by assumption) hl1 (hf9 _ rfl)
      rename News g1 _ _ [] => Nold
      clear Nold
      have hfm : ((l.length : Int)).fmod 2 = (l.length : Int) % 2 := Int.fmod_eq_emod_of_nonneg _ (by decide)
      (k_steps; repeat' ((refine Hold.mk ?_; first | ((with_reducible show wpAny _ _ (call (Value.ref 387) [_, _, _]) _ _ _); (refine' counts_in_ok ?B ?F ?X ?T ?hk ?N ?hg ?hs ?hh ?hl ?hd ?hu ?_ ?_; (case B => k_asm); (case F => k_asm); (case X => k_asm); (case T => k_asm); (case hk => first | exact rfl | assumption); (case N => exact News.nil); (case hl => decide); (case hh => assumption); (case hs => assumption); (case hg => (first | exact Fr.keep (by assumption) | exact stays_trans (by assumption) (Fr.keep (by assumption)))); (case hd => ktr_room); (case hu => ktr_units)); (all_goals (first | (intro ze9 zh9 ztk9 zfl9 zhb9; (try dsimp only); (refine' leave_next ?K ?F zfl9 ?hc ?_; (case K => assumption); (case F => assumption); (case hc => assumption)); intro zh8 zfl8; (try dsimp only); refine Hold.out ?_) | (intro zr9 zh9 ztk9 zF9 zhb9 zhn9 zhr9 zhf9; (have zN9 := newsStay (by assumption) zhb9); (try dsimp only); refine Hold.out ?_)))) | ((with_reducible show wpAny _ _ (call (Value.ref 59) [Value.str _ _]) _ _ _); (refine' cross_made ?B ?F ?X ?T ?hk ?hd ?hu ?_; (case B => k_asm); (case F => k_asm); (case X => k_asm); (case T => k_asm); (case hk => first | exact rfl | assumption); (case hd => ktr_room); (case hu => ktr_units)); (intro ze9 zt9 zdd9 zh9 ztk9 zhen9 zhe9 zhtn9 zht9 zhb9); (refine ⟨ze9, zt9, zdd9, rfl, stays_trans (Fr.keep (by assumption)) zhb9.stays, zhe9, ?_⟩)) | ((with_reducible show wpAny _ _ (call (Value.ref 380) [_]) _ _ _); (refine' is_count_ok ?B ?F ?X ?T ?hk ?N ?hv ?hd ?hu ?_; (case B => k_asm); (case F => k_asm); (case X => k_asm); (case T => k_asm); (case hk => first | exact rfl | assumption); (case N => exact News.nil); (case hv => (first | exact IsD.keeps (by assumption) (Fr.keep (by assumption)) | exact IsD.keeps (by assumption) (stays_trans (by assumption) (Fr.keep (by assumption))))); (case hd => ktr_room); (case hu => ktr_units)); intro zh9 ztk9 zF9 zhb9; (have zN9 := newsStay (by assumption) zhb9); (try dsimp only)) | ((with_reducible show wpAny _ _ (call (Value.ref 313) [_, _, _]) _ _ _); (refine' get_ok ?B ?F ?X ?T ?hk ?N ?hg ?hs ?hh ?hd ?hu ?_; (case B => k_asm); (case F => k_asm); (case X => k_asm); (case T => k_asm); (case hk => first | exact rfl | assumption); (case N => exact News.nil); (case hh => assumption); (case hs => assumption); (case hg => (first | exact Fr.keep (by assumption) | exact stays_trans (by assumption) (Fr.keep (by assumption)))); (case hd => ktr_room); (case hu => ktr_units)); intro zr9 zh9 ztk9 zF9 zhb9 zhr9; (have zN9 := newsStay (by assumption) zhb9); (try dsimp only); refine Hold.out ?_)); k_steps))
      · exact exc _ _ _ (by assumption) (numsC_bad (by omega))
      · rename News g1 _ _ _ => Nz
        have hl' := Nz _ List.mem_cons_self
        rw [numsC_ok (l := l) (by omega)] at ret
        refine ret _ _ _ (by assumption) (But.ofFr hB1 (by assumption)) (fun q => nomatch q) ⟨_, vs, _, rfl, hl'.1, hl2, hl3⟩ (fun a e => ?_)
        cases e
        cases hq : s.heap.get? _ with
        | none => rfl
        | some o => exact absurd (hk1 _ _ hq) (by rw [hl'.2.2]; exact fun q => nomatch q)

set_option maxRecDepth 100000
set_option maxHeartbeats 8000000

section
variable {prog : Program} {w : World} {A A₀ : Around} {E : Value → Shared → Prop} {s : Shared} {K : Frag} {C L : Addr} {h₀ base : Heap} {m mg mb : Str → Option Value} {news : List (Addr × Obj)} {p : Program} {loose : List Str} {mean : ExcName → Option Value} {Q : Value → Shared → Prop}
theorem ended0 {R : Result → Shared → Prop} {g : Heap} {v : Value} {s' : Shared} (FG : Fr h₀ L g m) (e0 : h₀.get? L = none) (end0 : LeaveS0 [L] h₀ L m g R v s') : R (.ok (.ret v)) s' := by
  obtain ⟨g', L', m', nw, T, F', N', k⟩ := end0
  obtain ⟨o, es, ep, hL, hD, hK, hV⟩ := FG.ns
  obtain ⟨sl, hL'⟩ := T.up hL
  have old : ∀ b x, g.get? b = some x → ∀ y ∈ nw, y.1 ≠ b := fun b x e y hy q => by
    obtain ⟨_, z⟩ := T.up e
    rw [← q, (N' y hy).2.2] at z
    cases z
  refine k ⟨⟨_, es, ep, F'.keep _ _ hL', hD, hK, hV⟩, fun b x e => ?_, FG.above⟩ fun y hy => ⟨(N' y hy).1, old _ _ hL y hy, ?_⟩
  · refine F'.keep b x (T.other b x (FG.keep b x e) fun q => ?_)
    rw [List.mem_singleton.mp q, e0] at e
    cases e
  · exact Option.eq_none_iff_forall_ne_some.mpr fun x e => old _ _ (FG.keep _ x e) y hy rfl
theorem code_defHS {env : Env} {R : Result → Shared → Prop} {name qual : Str} {params : Arguments} {body : List Stmt} {scope : Scope} {dV kV doc pm cdv ct oc : Value} {an od : Option Addr} {osl : Array (Option Value)} {f : Addr} {args : Args} {binds : List (Str × Value)}
    (B : Below A₀ base [] h₀) (F : Fr h₀ L s.heap m) (X₀ : K.In h₀) (N : News h₀ L s.heap news) (T : Top p loose mean mg mb h₀) (hA : A.frames = some [env]) (hf : env.frame = some L) (hke : env.scope.kind = .function)
    (ho : K.lookup f = some ⟨oc, od, .func (fnOf name qual params body scope dV kV doc pm an cdv ct), osl⟩) (hcd : codeIn K cdv qual = true) (hroom : A.depth < recursionLimit)
    (hbind : BindsTo s (fnOf name qual params body scope dV kV doc pm an cdv ct) args binds) (hloc : ∀ y ∈ binds, scope.names.lookup y.1 = some .local)
    (h : ∀ g L' h₁, Fr h₀ L g m → Fr g L' h₁ (fun y => binds.reverse.lookup y) → News g L' h₁ news → Below A base [env] g → K.In g → Top p loose mean mg mb g → KtsDicts ([env].filterMap (·.frame)) g → But (news.map (·.1)) s.heap g → g.StaysIn s.heap → AllLt L' news → s.heap.objs.size ≤ L' →
      wpAny (model prog w) (A.deeper (envOf qual scope L' f cdv)) (execs body (envOf qual scope L' f cdv))
        (fun fl s' => LeaveS0 ([env].filterMap (·.frame)) h₀ L m g R (match fl with | .ret v => v | _ => .none) s')
        (fun e s' => wpAny (model prog w) (A.deeper (envOf qual scope L' f cdv)) (leaving (envOf qual scope L' f cdv) e) (fun _ s'' => R (.error e) s'') (fun e' s'' => R (.error e') s'') s')
        { s with heap := h₁, toks := s.toks + binds.length })
    (hco : scope.isCoroutine = false) (hgen : scope.isGenerator = false) (hk : scope.kind = .function)
    (hcell : ∀ x ∈ scope.names, x.2 ≠ .cell) : codeAny (model prog w) A (.call (.ref f) args) R s := by
  obtain ⟨g, FG, BG, XG, TG, but, back, toFr, toNews, lt, _⟩ := grounds (R := R) B F X₀ N T hA hf hke
  have X := X₀.keeps F.keep
  have one : [env].filterMap (·.frame) = [L] := by rw [List.filterMap_cons, hf]; rfl
  rw [one] at h
  have dicts : KtsDicts [L] g := fun b hb => by
    obtain ⟨o, es, ep, hL, hD, _⟩ := FG.ns
    rw [List.mem_singleton.mp hb]
    exact ⟨o, es, ep, hL, hD⟩
  refine codeAny_call_def (binds := binds) hroom (X _ _ ho) rfl (T.nolimit.keeps F.keep) (codeRec_of X hcd) rfl hbind hcell hloc (fun h₁ ns up => ?_) hco hgen hk
  exact wpAny_mono (h g _ h₁ FG (toFr _ _ up ns) (toNews _ up) BG XG TG dicts but back lt (Nat.le_refl _)) (fun _ _ => ended0 FG (kts_self F)) fun _ _ y => y
end
theorem Fl.raisedS {A₀ : Around} {base g G h' : Heap} {outer : List Env} {L a e : Addr} {m : Str → Option Value} {name : Str} {scope : Scope} {cd : Value} (K : Below A₀ base outer g) (F : Fr g L G m) (fl : Fl (envOf name scope L a cd :: outer) G e h') (hk : scope.kind = .function := by rfl) :
    ∃ t vs, RaisedS base G (envOf name scope L a cd :: outer) e (.ref 59) t vs [] h' ∧ G.UpToSlots h' := by
  obtain ⟨B, t, vs, hBG, hfl, hnt, htup, hsm⟩ := fl
  have K' := K.push (name := name) (a := a) (cd := cd) F hk
  exact ⟨t, vs, ⟨⟨B, fun b o q => hBG b o (K'.stays b o q) (fun hm => by rw [(K'.frames.mem hm).1] at q; cases q), hBG, (fun q hq => by cases hq), hfl, hnt⟩, htup⟩, hsm⟩
section
local macro_rules | `(tactic| walk_at "LeaveS0") => `(tactic| refine Hold.out ?_)
local macro_rules | `(tactic| walk_at "call ref") => `(tactic| refine holdAt 394 ?_)
local macro_rules | `(tactic| walk_at "call ref") => `(tactic| refine holdAt 401 ?_)
local macro_rules | `(tactic| walk_at "nothing at all") => `(tactic| fail)
theorem heard_w_ok {w : World} {mean : ExcName → Option Value} {mg mb : Str → Option Value} {dp un : Nat} {gd : Option (List Code)} {cn : Str} {cs : Scope} {a : Addr} {ccd : Value} {cl : List (Str × Addr)} {A₀ : Around} {base h₀ : Heap} {L : Addr} {m : Str → Option Value} {s : Shared} {Q E : Value → Shared → Prop}
    (B : Below A₀ base [] h₀) (F : Fr h₀ L s.heap m) (X : (hd.heap_1 w.params).In h₀) (T : Top view (looseW view looseN) mean mg mb h₀) (hk : cs.kind = .function)
    (XB : (hd.heap_1 w.params).In base) (TB : Top view (looseW view looseN) mean mg mb base)
    {sv : Value} {t : Addr} {T' : List (Int × D)} {H : List (Str × D)} {g : Heap}
    (N : News h₀ L s.heap []) (hg : ∀ b o, g.get? b = some o → s.heap.get? b = some o) (hsv : IsShelf w g sv T') (hh : IsHead w g t H)
    (hd : dp + 240 < recursionLimit) (hu : un + 240 < cLine)
    (ret : ∀ (r : Value) h' tk', Fr h₀ L h' m → But [L] s.heap h' → IsC h' r (widthsC (cntD (fetchK T' 30) (headAt H (Str.ofString "W")))) → (∀ a, r = .ref a → s.heap.get? a = none) → Q (r) { s with heap := h', toks := tk' }) :
    wpAny (model PySem.Challenge.rw_nn0123_01.row.prog w) (ktrTop dp un gd cn cs L a ccd cl []) (call (.ref 479) [.ref 394, sv, .ref t]) Q E s := by
  revert X XB; k_fill; intro X XB
  have hsv' := hsv
  obtain ⟨x, dx, es, n, t', rfl, h1s, h2s, h3, h4, h5, h6⟩ := hsv
  refine wpAny_call ?_
  k_dflt (refine' code_defHS (binds := [(Str.ofString "deed", .ref 394), (Str.ofString "shelf", .ref x), (Str.ofString "head", .ref t)]) ?k1 ?k2 ?k3 ?k4 ?k5 ?kA ?kF ?kK ?k6 ?k7 ?k8 ?k9 ?kB ?_ ?c2 ?c3 ?c4 ?c5; (case kA => exact rfl); (case kF => exact rfl); (case kK => assumption); (case k1 => k_asm); (case k2 => k_asm); (case k3 => k_asm); (case k4 => k_asm); (case k5 => k_asm); (case k6 => k_is); (case k7 => k_is); (case k8 => ktr_room); (case k9 => exact BindsTo.of_eq rfl); (case c5 => decide); (case kB => exact locs rfl); (case c2 => exact rfl); (case c3 => exact rfl); (case c4 => exact rfl); k_whole)
  intro g1 L1 h1 FG1 F1 N1 B1 X1 T1 D1 hB1 hS1 hL1 hZ1
  (try dsimp only)
  (try simp only [AllLt, and_true] at hL1)
  (try k_fold)
  have hk2 : ∀ b o, g.get? b = some o → g1.get? b = some o := fun b o e => hB1 b o (hg b o e) (by simp)
  have hk1 : ∀ b o, s.heap.get? b = some o → g1.get? b = some o := fun b o e => hB1 b o e (by simp)
  have h1s := hk2 _ _ h1s
  have h2s := hk2 _ _ h2s
  (k_steps; repeat' ((refine Hold.mk ?_; first | ((with_reducible show wpAny _ _ (call (Value.ref 401) [_, _]) _ _ _); (refine' numbers_in_ok ?B ?F ?X ?T ?hk ?N ?hg ?hs ?hh ?hd ?hu ?_ ?_; (case B => k_asm); (case F => k_asm); (case X => k_asm); (case T => k_asm); (case hk => first | exact rfl | assumption); (case N => exact News.nil); (case hh => assumption); (case hs => assumption); (case hg => (first | exact Fr.keep (by assumption) | exact stays_trans (by assumption) (Fr.keep (by assumption)))); (case hd => ktr_room); (case hu => ktr_units)); all_goals (refine Hold.out ?_)) | ((with_reducible show wpAny _ _ (call (Value.ref 394) [_, _]) _ _ _); (refine' widths_in_ok ?B ?F ?X ?T ?hk ?N ?hg ?hs ?hh ?hd ?hu ?_ ?_; (case B => k_asm); (case F => k_asm); (case X => k_asm); (case T => k_asm); (case hk => first | exact rfl | assumption); (case N => exact News.nil); (case hh => assumption); (case hs => assumption); (case hg => (first | exact Fr.keep (by assumption) | exact stays_trans (by assumption) (Fr.keep (by assumption)))); (case hd => ktr_room); (case hu => ktr_units)); all_goals (refine Hold.out ?_))); k_steps))
  · unfold Hold
    intro e9 h9 tk9 fl9 hb9
    obtain ⟨t9, vs9, R9, U9⟩ := fl9.raisedS B1 F1
    (try dsimp only)
    (k_steps; repeat' ((refine Hold.mk ?_; first | ((with_reducible show wpAny _ _ (call (Value.ref 401) [_, _]) _ _ _); (refine' numbers_in_ok ?B ?F ?X ?T ?hk ?N ?hg ?hs ?hh ?hd ?hu ?_ ?_; (case B => k_asm); (case F => k_asm); (case X => k_asm); (case T => k_asm); (case hk => first | exact rfl | assumption); (case N => exact News.nil); (case hh => assumption); (case hs => assumption); (case hg => (first | exact Fr.keep (by assumption) | exact stays_trans (by assumption) (Fr.keep (by assumption)))); (case hd => ktr_room); (case hu => ktr_units)); all_goals (refine Hold.out ?_)) | ((with_reducible show wpAny _ _ (call (Value.ref 394) [_, _]) _ _ _); (refine' widths_in_ok ?B ?F ?X ?T ?hk ?N ?hg ?hs ?hh ?hd ?hu ?_ ?_; (case B => k_asm); (case F => k_asm); (case X => k_asm); (case T => k_asm); (case hk => first | exact rfl | assumption); (case N => exact News.nil); (case hh => assumption); (case hs => assumption); (case hg => (first | exact Fr.keep (by assumption) | exact stays_trans (by assumption) (Fr.keep (by assumption)))); (case hd => ktr_room); (case hu => ktr_units)); all_goals (refine Hold.out ?_))); k_steps))
    dsimp only [Hold]
    rename KtsTurn _ g1 _ => TT
    have hTT : ∀ b o, g1.get? b = some o → b ∉ [L] → _ := fun b o e n => TT.other b o e n
    rename News _ L1 _ _ => N9
    rename Fr _ L1 _ _ => F9
    refine leaveS0_ F9 N9 TT fun FF NN => ?_
    refine ret _ _ _ FF (fun b o e n => F9.keep _ _ (hTT b o (hk1 _ _ e) n)) (by rw [hb9]; exact ⟨_, rfl⟩) (fun a e => nomatch e)
  · unfold Hold
    intro r9 h9 tk9 F9 hb9 hn9 hr9 hf9
    have N9 := newsStay N1 hb9
    (try dsimp only)
    (k_steps; repeat' ((refine Hold.mk ?_; first | ((with_reducible show wpAny _ _ (call (Value.ref 401) [_, _]) _ _ _); (refine' numbers_in_ok ?B ?F ?X ?T ?hk ?N ?hg ?hs ?hh ?hd ?hu ?_ ?_; (case B => k_asm); (case F => k_asm); (case X => k_asm); (case T => k_asm); (case hk => first | exact rfl | assumption); (case N => exact News.nil); (case hh => assumption); (case hs => assumption); (case hg => (first | exact Fr.keep (by assumption) | exact stays_trans (by assumption) (Fr.keep (by assumption)))); (case hd => ktr_room); (case hu => ktr_units)); all_goals (refine Hold.out ?_)) | ((with_reducible show wpAny _ _ (call (Value.ref 394) [_, _]) _ _ _); (refine' widths_in_ok ?B ?F ?X ?T ?hk ?N ?hg ?hs ?hh ?hd ?hu ?_ ?_; (case B => k_asm); (case F => k_asm); (case X => k_asm); (case T => k_asm); (case hk => first | exact rfl | assumption); (case N => exact News.nil); (case hh => assumption); (case hs => assumption); (case hg => (first | exact Fr.keep (by assumption) | exact stays_trans (by assumption) (Fr.keep (by assumption)))); (case hd => ktr_room); (case hu => ktr_units)); all_goals (refine Hold.out ?_))); k_steps))
    unfold Hold
    refine leaveS0_ F9 N9 KtsTurn.refl fun FF NN => ?_
    refine ret _ _ _ FF (fun b o e n => hb9 _ _ (F1.keep _ _ (hk1 _ _ e)) (by simp)) hr9 (fun a e => ?_)
    have hn := hf9 a e
    cases hq : s.heap.get? a with
    | none => rfl
    | some o => exact absurd (F1.keep _ _ (hk1 _ _ hq)) (by rw [hn]; exact fun q => nomatch q)
theorem heard_n_ok {w : World} {mean : ExcName → Option Value} {mg mb : Str → Option Value} {dp un : Nat} {gd : Option (List Code)} {cn : Str} {cs : Scope} {a : Addr} {ccd : Value} {cl : List (Str × Addr)} {A₀ : Around} {base h₀ : Heap} {L : Addr} {m : Str → Option Value} {s : Shared} {Q E : Value → Shared → Prop}
    (B : Below A₀ base [] h₀) (F : Fr h₀ L s.heap m) (X : (hd.heap_1 w.params).In h₀) (T : Top view (looseW view looseN) mean mg mb h₀) (hk : cs.kind = .function)
    (XB : (hd.heap_1 w.params).In base) (TB : Top view (looseW view looseN) mean mg mb base)
    {sv : Value} {t : Addr} {T' : List (Int × D)} {H : List (Str × D)} {g : Heap}
    (N : News h₀ L s.heap []) (hg : ∀ b o, g.get? b = some o → s.heap.get? b = some o) (hsv : IsShelf w g sv T') (hh : IsHead w g t H)
    (hd : dp + 240 < recursionLimit) (hu : un + 240 < cLine)
    (ret : ∀ (r : Value) h' tk', Fr h₀ L h' m → But [L] s.heap h' → IsC h' r (numsC (cntD (fetchK T' 30) (headAt H (Str.ofString "Index"))) (fetchK T' 30 (headAt H (Str.ofString "Size")))) → (∀ a, r = .ref a → s.heap.get? a = none) → Q (r) { s with heap := h', toks := tk' }) :
    wpAny (model PySem.Challenge.rw_nn0123_01.row.prog w) (ktrTop dp un gd cn cs L a ccd cl []) (call (.ref 479) [.ref 401, sv, .ref t]) Q E s := by
  revert X XB; k_fill; intro X XB
  have hsv' := hsv
  obtain ⟨x, dx, es, n, t', rfl, h1s, h2s, h3, h4, h5, h6⟩ := hsv
  refine wpAny_call ?_
  k_dflt (refine' code_defHS (binds := [(Str.ofString "deed", .ref 401), (Str.ofString "shelf", .ref x), (Str.ofString "head", .ref t)]) ?k1 ?k2 ?k3 ?k4 ?k5 ?kA ?kF ?kK ?k6 ?k7 ?k8 ?k9 ?kB ?_ ?c2 ?c3 ?c4 ?c5; (case kA => exact rfl); (case kF => exact rfl); (case kK => assumption); (case k1 => k_asm); (case k2 => k_asm); (case k3 => k_asm); (case k4 => k_asm); (case k5 => k_asm); (case k6 => k_is); (case k7 => k_is); (case k8 => ktr_room); (case k9 => exact BindsTo.of_eq rfl); (case c5 => decide); (case kB => exact locs rfl); (case c2 => exact rfl); (case c3 => exact rfl); (case c4 => exact rfl); k_whole)
  intro g1 L1 h1 FG1 F1 N1 B1 X1 T1 D1 hB1 hS1 hL1 hZ1
  (try dsimp only)
  (try simp only [AllLt, and_true] at hL1)
  (try k_fold)
  have hk2 : ∀ b o, g.get? b = some o → g1.get? b = some o := fun b o e => hB1 b o (hg b o e) (by simp)
  have hk1 : ∀ b o, s.heap.get? b = some o → g1.get? b = some o := fun b o e => hB1 b o e (by simp)
  have h1s := hk2 _ _ h1s
  have h2s := hk2 _ _ h2s
  (k_steps; repeat' ((refine Hold.mk ?_; first | ((with_reducible show wpAny _ _ (call (Value.ref 401) [_, _]) _ _ _); (refine' numbers_in_ok ?B ?F ?X ?T ?hk ?N ?hg ?hs ?hh ?hd ?hu ?_ ?_; (case B => k_asm); (case F => k_asm); (case X => k_asm); (case T => k_asm); (case hk => first | exact rfl | assumption); (case N => exact News.nil); (case hh => assumption); (case hs => assumption); (case hg => (first | exact Fr.keep (by assumption) | exact stays_trans (by assumption) (Fr.keep (by assumption)))); (case hd => ktr_room); (case hu => ktr_units)); all_goals (refine Hold.out ?_)) | ((with_reducible show wpAny _ _ (call (Value.ref 394) [_, _]) _ _ _); (refine' widths_in_ok ?B ?F ?X ?T ?hk ?N ?hg ?hs ?hh ?hd ?hu ?_ ?_; (case B => k_asm); (case F => k_asm); (case X => k_asm); (case T => k_asm); (case hk => first | exact rfl | assumption); (case N => exact News.nil); (case hh => assumption); (case hs => assumption); (case hg => (first | exact Fr.keep (by assumption) | exact stays_trans (by assumption) (Fr.keep (by assumption)))); (case hd => ktr_room); (case hu => ktr_units)); all_goals (refine Hold.out ?_))); k_steps))
  · unfold Hold
    intro e9 h9 tk9 fl9 hb9
    obtain ⟨t9, vs9, R9, U9⟩ := fl9.raisedS B1 F1
    (try dsimp only)
    (k_steps; repeat' ((refine Hold.mk ?_; first | ((with_reducible show wpAny _ _ (call (Value.ref 401) [_, _]) _ _ _); (refine' numbers_in_ok ?B ?F ?X ?T ?hk ?N ?hg ?hs ?hh ?hd ?hu ?_ ?_; (case B => k_asm); (case F => k_asm); (case X => k_asm); (case T => k_asm); (case hk => first | exact rfl | assumption); (case N => exact News.nil); (case hh => assumption); (case hs => assumption); (case hg => (first | exact Fr.keep (by assumption) | exact stays_trans (by assumption) (Fr.keep (by assumption)))); (case hd => ktr_room); (case hu => ktr_units)); all_goals (refine Hold.out ?_)) | ((with_reducible show wpAny _ _ (call (Value.ref 394) [_, _]) _ _ _); (refine' widths_in_ok ?B ?F ?X ?T ?hk ?N ?hg ?hs ?hh ?hd ?hu ?_ ?_; (case B => k_asm); (case F => k_asm); (case X => k_asm); (case T => k_asm); (case hk => first | exact rfl | assumption); (case N => exact News.nil); (case hh => assumption); (case hs => assumption); (case hg => (first | exact Fr.keep (by assumption) | exact stays_trans (by assumption) (Fr.keep (by assumption)))); (case hd => ktr_room); (case hu => ktr_units)); all_goals (refine Hold.out ?_))); k_steps))
    dsimp only [Hold]
    rename KtsTurn _ g1 _ => TT
    have hTT : ∀ b o, g1.get? b = some o → b ∉ [L] → _ := fun b o e n => TT.other b o e n
    rename News _ L1 _ _ => N9
    rename Fr _ L1 _ _ => F9
    refine leaveS0_ F9 N9 TT fun FF NN => ?_
    refine ret _ _ _ FF (fun b o e n => F9.keep _ _ (hTT b o (hk1 _ _ e) n)) (by rw [hb9]; exact ⟨_, rfl⟩) (fun a e => nomatch e)
  · unfold Hold
    intro r9 h9 tk9 F9 hb9 hn9 hr9 hf9
    have N9 := newsStay N1 hb9
    (try dsimp only)
    (k_steps; repeat' ((refine Hold.mk ?_; first | ((with_reducible show wpAny _ _ (call (Value.ref 401) [_, _]) _ _ _); (refine' numbers_in_ok ?B ?F ?X ?T ?hk ?N ?hg ?hs ?hh ?hd ?hu ?_ ?_; (case B => k_asm); (case F => k_asm); (case X => k_asm); (case T => k_asm); (case hk => first | exact rfl | assumption); (case N => exact News.nil); (case hh => assumption); (case hs => assumption); (case hg => (first | exact Fr.keep (by assumption) | exact stays_trans (by assumption) (Fr.keep (by assumption)))); (case hd => ktr_room); (case hu => ktr_units)); all_goals (refine Hold.out ?_)) | ((with_reducible show wpAny _ _ (call (Value.ref 394) [_, _]) _ _ _); (refine' widths_in_ok ?B ?F ?X ?T ?hk ?N ?hg ?hs ?hh ?hd ?hu ?_ ?_; (case B => k_asm); (case F => k_asm); (case X => k_asm); (case T => k_asm); (case hk => first | exact rfl | assumption); (case N => exact News.nil); (case hh => assumption); (case hs => assumption); (case hg => (first | exact Fr.keep (by assumption) | exact stays_trans (by assumption) (Fr.keep (by assumption)))); (case hd => ktr_room); (case hu => ktr_units)); all_goals (refine Hold.out ?_))); k_steps))
    unfold Hold
    refine leaveS0_ F9 N9 KtsTurn.refl fun FF NN => ?_
    refine ret _ _ _ FF (fun b o e n => hb9 _ _ (F1.keep _ _ (hk1 _ _ e)) (by simp)) hr9 (fun a e => ?_)
    have hn := hf9 a e
    cases hq : s.heap.get? a with
    | none => rfl
    | some o => exact absurd (F1.keep _ _ (hk1 _ _ hq)) (by rw [hn]; exact fun q => nomatch q)
end

set_option maxRecDepth 100000
set_option maxHeartbeats 8000000

theorem dictOf_obj {K : Type} [DecidableEq K] {prog : Program} {w : World} {knd : KeyKind prog w K} {h : Heap} {t : Addr} {kvs : List (K × Value)} (x : h.DictOf knd t kvs) : ∃ es ep, h.get? t = some (dictOf es ep) := by
  obtain ⟨o, es, ep, ho, ⟨h1, h2, h3⟩, hd, _⟩ := x
  obtain ⟨c, d, dt, sl⟩ := o
  dsimp only at h1 h2 h3 hd
  subst h1 h2 h3 hd
  exact ⟨es.toList, ep, by simpa [dictOf] using ho⟩
noncomputable def isX : D → Bool
  | .p (.name x) => x == Str.ofString "XRef"
  | _ => false
theorem isX_no {d : D} (h : d.isi "nam" = false) : isX d = false := by
  cases d with
  | p p => cases p with
    | name x => cases h
    | _ => rfl
  | _ => rfl
theorem nam_name {d : D} (h : d.isi "nam" = true) : ∃ x, d = .p (.name x) := by
  cases d with
  | p p => cases p with
    | name x => exact ⟨x, rfl⟩
    | _ => cases h
  | _ => cases h
noncomputable def IsStream (g : Heap) (v : Value) (t : Addr) : Prop := ∃ x dx es n, v = .ref x ∧ g.get? x = some (instObj 233 dx) ∧ g.get? dx = some (dictOf es n) ∧ getL "head" es = some (some (.ref t))
local macro_rules | `(tactic| walk_at "call builtin:isinstance") => `(tactic| (k_here; (with_reducible show wpAny _ _ (call _ [_, Value.ref 190]) _ _ _); k_dflt (refine' isi_nam ?F ?X ?v ?_; (case F => k_asm); (case X => k_asm); (case v => kbo_bools)); (intro tk; refine Hold.out ?_)))
local macro_rules | `(tactic| walk_at "nothing at all") => `(tactic| fail)
local macro_rules | `(tactic| walk_at "nothing at all") => `(tactic| fail)
local macro_rules | `(tactic| walk_at "nothing at all") => `(tactic| fail)
local macro_rules | `(tactic| walk_at "nothing at all") => `(tactic| fail)
theorem is_cross_no {w : World} {mean : ExcName → Option Value} {mg mb : Str → Option Value} {dp un : Nat} {gd : Option (List Code)} {cn : Str} {cs : Scope} {a : Addr} {ccd : Value} {cl : List (Str × Addr)} {outer : List Env} {A₀ : Around} {base h₀ : Heap} {L : Addr} {m : Str → Option Value} {s : Shared} {Q E : Value → Shared → Prop}
    (B : Below A₀ base outer h₀) (F : Fr h₀ L s.heap m) (X : (hd.heap_1 w.params).In h₀) (T : Top view (looseW view looseN) mean mg mb h₀) (hk : cs.kind = .function)
    {sv : Value} {t : Addr} {H : List (Str × D)} {g : Heap}
    (N : News h₀ L s.heap []) (hg : ∀ b o, g.get? b = some o → s.heap.get? b = some o) (hh : IsHead w g t H)
    (hd : dp + 220 < recursionLimit) (hu : un + 220 < cLine)
    (ret : ∀ h' tk', Fr h₀ L h' m → But [] s.heap h' → Q (.bool false) { s with heap := h', toks := tk' }) :
    wpAny (model PySem.Challenge.rw_nn0123_01.row.prog w) (ktrTop dp un gd cn cs L a ccd cl outer) (call (.ref 415) [sv, .ref t]) Q E s := by
  revert X; k_fill; intro X
  obtain ⟨_, kvs, hD, _⟩ := hh
  obtain ⟨es, ep, hO⟩ := dictOf_obj hD
  refine wpAny_call ?_
  k_dflt (refine' code_defH (binds := [(Str.ofString "shelf", sv), (Str.ofString "value", .ref t)]) ?k1 ?k2 ?k3 ?k4 ?k5 ?kA ?kF ?kK ?k6 ?k7 ?k8 ?k9 ?kB ?_ ?c2 ?c3 ?c4 ?c5; (case kA => exact rfl); (case kF => exact rfl); (case kK => assumption); (case k1 => k_asm); (case k2 => k_asm); (case k3 => k_asm); (case k4 => k_asm); (case k5 => k_asm); (case k6 => k_is); (case k7 => k_is); (case k8 => ktr_room); (case k9 => exact BindsTo.of_eq rfl); (case c5 => decide); (case kB => exact locs rfl); (case c2 => exact rfl); (case c3 => exact rfl); (case c4 => exact rfl); k_whole)
  intro g1 L1 h1 FG1 F1 N1 B1 X1 T1 hB1 hS1 hL1 hZ1
  (try dsimp only)
  (try simp only [AllLt, and_true] at hL1)
  (try k_fold)
  have hk2 : ∀ b o, g.get? b = some o → g1.get? b = some o := fun b o e => hB1 b o (hg b o e) (by simp)
  have hk1 : ∀ b o, s.heap.get? b = some o → g1.get? b = some o := fun b o e => hB1 b o e (by simp)
  have hO1 := hk2 _ _ hO
  (k_steps; repeat' ((refine Hold.mk ?_; first | ((with_reducible show wpAny _ _ (call (Value.ref 313) [_, _, _]) _ _ _); (refine' get_ok ?B ?F ?X ?T ?hk ?N ?hg ?hs ?hh ?hd ?hu ?_; (case B => k_asm); (case F => k_asm); (case X => k_asm); (case T => k_asm); (case hk => first | exact rfl | assumption); (case N => exact News.nil); (case hh => assumption); (case hs => assumption); (case hg => (first | exact Fr.keep (by assumption) | exact stays_trans (by assumption) (Fr.keep (by assumption)))); (case hd => ktr_room); (case hu => ktr_units)); intro zr9 zh9 ztk9 zF9 zhb9 zhr9; (have zN9 := newsStay (by assumption) zhb9); (try dsimp only); refine Hold.out ?_)); k_steps))
  exact ret _ _ (by assumption) (But.ofFr hB1 (by assumption))
theorem is_cross_ok {w : World} {mean : ExcName → Option Value} {mg mb : Str → Option Value} {dp un : Nat} {gd : Option (List Code)} {cn : Str} {cs : Scope} {a : Addr} {ccd : Value} {cl : List (Str × Addr)} {outer : List Env} {A₀ : Around} {base h₀ : Heap} {L : Addr} {m : Str → Option Value} {s : Shared} {Q E : Value → Shared → Prop}
    (B : Below A₀ base outer h₀) (F : Fr h₀ L s.heap m) (X : (hd.heap_1 w.params).In h₀) (T : Top view (looseW view looseN) mean mg mb h₀) (hk : cs.kind = .function)
    {sv v : Value} {t : Addr} {T' : List (Int × D)} {H : List (Str × D)} {g : Heap}
    (N : News h₀ L s.heap []) (hg : ∀ b o, g.get? b = some o → s.heap.get? b = some o) (hsv : IsShelf w g sv T') (hh : IsHead w g t H) (hv : IsStream g v t)
    (hd : dp + 220 < recursionLimit) (hu : un + 220 < cLine)
    (ret : ∀ h' tk', Fr h₀ L h' m → But [] s.heap h' → Q (.bool (isX (fetchK T' 30 (headAt H (Str.ofString "Type"))))) { s with heap := h', toks := tk' }) :
    wpAny (model PySem.Challenge.rw_nn0123_01.row.prog w) (ktrTop dp un gd cn cs L a ccd cl outer) (call (.ref 415) [sv, v]) Q E s := by
  revert X; k_fill; intro X
  have hsv' := hsv
  obtain ⟨x, dx, es, n, t', rfl, h1s, h2s, h3, h4, h5, h6⟩ := hsv
  obtain ⟨y, dy, es2, n2, rfl, q1, q2, q3⟩ := hv
  refine wpAny_call ?_
  k_dflt (refine' code_defH (binds := [(Str.ofString "shelf", .ref x), (Str.ofString "value", .ref y)]) ?k1 ?k2 ?k3 ?k4 ?k5 ?kA ?kF ?kK ?k6 ?k7 ?k8 ?k9 ?kB ?_ ?c2 ?c3 ?c4 ?c5; (case kA => exact rfl); (case kF => exact rfl); (case kK => assumption); (case k1 => k_asm); (case k2 => k_asm); (case k3 => k_asm); (case k4 => k_asm); (case k5 => k_asm); (case k6 => k_is); (case k7 => k_is); (case k8 => ktr_room); (case k9 => exact BindsTo.of_eq rfl); (case c5 => decide); (case kB => exact locs rfl); (case c2 => exact rfl); (case c3 => exact rfl); (case c4 => exact rfl); k_whole)
  intro g1 L1 h1 FG1 F1 N1 B1 X1 T1 hB1 hS1 hL1 hZ1
  (try dsimp only)
  (try simp only [AllLt, and_true] at hL1)
  (try k_fold)
  have hk2 : ∀ b o, g.get? b = some o → g1.get? b = some o := fun b o e => hB1 b o (hg b o e) (by simp)
  have hk1 : ∀ b o, s.heap.get? b = some o → g1.get? b = some o := fun b o e => hB1 b o e (by simp)
  have h1s := hk2 _ _ h1s
  have h2s := hk2 _ _ h2s
  have q1s := hk2 _ _ q1
  have q2s := hk2 _ _ q2
  (k_steps; repeat' ((refine Hold.mk ?_; first | ((with_reducible show wpAny _ _ (call (Value.ref 313) [_, _, _]) _ _ _); (refine' get_ok ?B ?F ?X ?T ?hk ?N ?hg ?hs ?hh ?hd ?hu ?_; (case B => k_asm); (case F => k_asm); (case X => k_asm); (case T => k_asm); (case hk => first | exact rfl | assumption); (case N => exact News.nil); (case hh => assumption); (case hs => assumption); (case hg => (first | exact Fr.keep (by assumption) | exact stays_trans (by assumption) (Fr.keep (by assumption)))); (case hd => ktr_room); (case hu => ktr_units)); intro zr9 zh9 ztk9 zF9 zhb9 zhr9; (have zN9 := newsStay (by assumption) zhb9); (try dsimp only); refine Hold.out ?_)); k_steps))
  unfold Hold
  rename IsD g _ (fetchK _ _ _) => hr9
  generalize hdat : fetchK T' 30 (headAt H (Str.ofString "Type")) = dd at hr9 ret
  (k_steps; repeat' ((refine Hold.mk ?_; first | ((with_reducible show wpAny _ _ (call (Value.ref 313) [_, _, _]) _ _ _); (refine' get_ok ?B ?F ?X ?T ?hk ?N ?hg ?hs ?hh ?hd ?hu ?_; (case B => k_asm); (case F => k_asm); (case X => k_asm); (case T => k_asm); (case hk => first | exact rfl | assumption); (case N => exact News.nil); (case hh => assumption); (case hs => assumption); (case hg => (first | exact Fr.keep (by assumption) | exact stays_trans (by assumption) (Fr.keep (by assumption)))); (case hd => ktr_room); (case hu => ktr_units)); intro zr9 zh9 ztk9 zF9 zhb9 zhr9; (have zN9 := newsStay (by assumption) zhb9); (try dsimp only); refine Hold.out ?_)); k_steps))
  unfold Hold
  cases hb : dd.isi "nam" with
  | false =>
    rw [isX_no hb] at ret
    (k_steps; repeat' ((refine Hold.mk ?_; first | ((with_reducible show wpAny _ _ (call (Value.ref 313) [_, _, _]) _ _ _); (refine' get_ok ?B ?F ?X ?T ?hk ?N ?hg ?hs ?hh ?hd ?hu ?_; (case B => k_asm); (case F => k_asm); (case X => k_asm); (case T => k_asm); (case hk => first | exact rfl | assumption); (case N => exact News.nil); (case hh => assumption); (case hs => assumption); (case hg => (first | exact Fr.keep (by assumption) | exact stays_trans (by assumption) (Fr.keep (by assumption)))); (case hd => ktr_room); (case hu => ktr_units)); intro zr9 zh9 ztk9 zF9 zhb9 zhr9; (have zN9 := newsStay (by assumption) zhb9); (try dsimp only); refine Hold.out ?_)); k_steps))
    exact ret _ _ (by assumption) (But.ofFr hB1 (by assumption))
  | true =>
    obtain ⟨x, rfl⟩ := nam_name hb
    obtain ⟨z, dz, es3, k3, t3, rfl, r1, r2, r3⟩ := hr9
    have r1s := hk2 _ _ r1
    have r2s := hk2 _ _ r2
    (k_steps; repeat' ((refine Hold.mk ?_; first | ((with_reducible show wpAny _ _ (call (Value.ref 313) [_, _, _]) _ _ _); (refine' get_ok ?B ?F ?X ?T ?hk ?N ?hg ?hs ?hh ?hd ?hu ?_; (case B => k_asm); (case F => k_asm); (case X => k_asm); (case T => k_asm); (case hk => first | exact rfl | assumption); (case N => exact News.nil); (case hh => assumption); (case hs => assumption); (case hg => (first | exact Fr.keep (by assumption) | exact stays_trans (by assumption) (Fr.keep (by assumption)))); (case hd => ktr_room); (case hu => ktr_units)); intro zr9 zh9 ztk9 zF9 zhb9 zhr9; (have zN9 := newsStay (by assumption) zhb9); (try dsimp only); refine Hold.out ?_)); k_steps))
    exact ret _ _ (by assumption) (But.ofFr hB1 (by assumption))

set_option maxRecDepth 100000
set_option maxHeartbeats 8000000

section
variable {prog : Program} {w : World} {A : Around} {E : Value → Shared → Prop} {s : Shared} {env : Env} {h₀ : Heap} {x : Str} {body : List Stmt} {Q : Flow → Shared → Prop} {K : Type} [DecidableEq K] {knd : KeyKind prog w K}
theorem kst_keys {σ : Type} {d : Addr} {kvs : List (K × Value)} {m₀ : Str → Option Value} (Led : σ → List (Addr × Obj)) (ps : σ → List (Str × Value)) (Facts : σ → Prop) (stored : List Str) (P : List (K × Value) → σ → Prop) (c₀ : σ)
    (hh : A.handled = none) (lo : (d == sysModules) = false) (hl : h₀.DictOf knd d kvs) (F : Fr h₀ env.locals s.heap m₀) (N : News h₀ env.locals s.heap (Led c₀)) (hf : Facts c₀) (hk : ∀ p ∈ ps c₀, m₀ p.1 = some p.2) (hp : P [] c₀)
    (turn : ∀ (c : σ) pre k y post v (u : Str → Option Value) h tk own, kvs = pre ++ (k, y) :: post → knd.is k v = true → OwnOff own ((Led c₀).map (·.1)) → Facts c → P pre c →
      Fr h₀ env.locals h (fun y => if y = x then some v else kstB (fun z => if stored.contains z then u z else m₀ z) (ps c) y) → News h₀ env.locals h (Led c ++ own) →
      wpAny (model prog w) A (execs body env) (InvPostN h₀ env.locals (fun m' nx => ∃ c : σ, nx = Led c ∧ Facts c ∧ (∀ p ∈ ps c, m' p.1 = some p.2) ∧ (∀ z, z ≠ x → (∀ p ∈ ps c, z ≠ p.1) → stored.contains z = false → m' z = m₀ z) ∧ P (pre ++ [(k, y)]) c) own ((Led c₀).map (·.1)) { s with heap := h, toks := tk } Q) E { s with heap := h, toks := tk })
    (done : ∀ (c : σ) (u : Str → Option Value) h tk, Facts c → P kvs c → Fr h₀ env.locals h (fun y => if y = x then u y else kstB (fun z => if stored.contains z then u z else m₀ z) (ps c) y) → News h₀ env.locals h (Led c) → Q .next { s with heap := h, toks := tk }) :
    wpAny (model prog w) A (pyIter (.ref d)) (fun it s₂ => LoopAtV prog w A h₀ env x body Q E it s₂) E s := by
  obtain ⟨od, es, ep, hod, hr⟩ := id hl
  have hls : s.heap.DictAt knd d kvs ep := ⟨od, es, F.keep _ _ hod, hr⟩
  have hlt : d < h₀.objs.size := Heap.lt_size hod
  have hne : d ≠ s.heap.objs.size := Nat.ne_of_lt (Nat.lt_trans (Nat.lt_of_lt_of_le hlt F.above) F.ns.lt)
  refine wpAny_pyIter_dict lo hls ?_
  have W := Walks.dictKeys (prog := prog) (w := w) (knd := knd) hh s.heap.objs.size d hne kvs ep
  refine loop_invN (fun i m nx => ∃ c : σ, nx = Led c ∧ Facts c ∧ (∀ p ∈ ps c, m p.1 = some p.2) ∧ (∀ z, z ≠ x → (∀ p ∈ ps c, z ≠ p.1) → stored.contains z = false → m z = m₀ z) ∧ P (kvs.take i) c) W ?_ ?_ ?_ ?_
    ⟨⟨_, Heap.get?_push_size _ rfl, rfl, rfl⟩, ⟨od, es, Heap.get?_push_of_some _ (F.keep _ _ hod), hr⟩⟩ (F.push _) (fun p hp => ⟨Heap.get?_push_of_some _ (N p hp).1, (N p hp).2⟩) ⟨c₀, rfl, hf, hk, fun _ _ _ _ => rfl, by simpa using hp⟩ ?_ ?_
  · intro hm
    rcases List.mem_cons.mp hm with e | hm
    · exact absurd F.ns.lt (e ▸ Nat.lt_irrefl _)
    · exact absurd (Nat.lt_of_lt_of_le hlt F.above) ((List.mem_singleton.mp hm) ▸ Nat.lt_irrefl _)
  · intro b hb
    rw [List.mem_singleton.mp hb]
    exact next_is_new F
  · intro p hp hI
    exact absurd (Heap.lt_size (N p hp).1) ((List.mem_singleton.mp hI) ▸ Nat.lt_irrefl _)
  · intro p hp hI
    rcases List.mem_cons.mp hI with e | e
    · exact absurd (Heap.lt_size (N p hp).1) (e ▸ Nat.lt_irrefl _)
    · have h3 := (N p hp).2.2
      rw [List.mem_singleton.mp e, hod] at h3
      cases h3
  · rintro i v m₁ nx h tk own hi ⟨k, y, hv, hkv⟩ _ hoff ⟨c, rfl, hf', h1, h2, hp'⟩ F₁ N₁
    have hs : kvs.take (i + 1) = kvs.take i ++ [(k, y)] := by simp [List.take_add_one, hv]
    have e : kvs = kvs.take i ++ (k, y) :: kvs.drop (i + 1) := by
      have ht := List.take_append_drop (i + 1) kvs
      rw [hs, List.append_assoc] at ht
      exact ht.symm
    rw [hs]
    exact turn c _ k y _ v m₁ h tk own e hkv hoff hf' hp' (kst_fr h1 h2 F₁) N₁
  · rintro m₁ nx h tk ⟨c, rfl, hf', h1, h2, hp'⟩ F₁ N₁
    rw [List.take_length] at hp'
    exact done c m₁ h tk hf' hp' (kst_frOut h1 h2 F₁) N₁
end
noncomputable def ownL : List Str := [Str.ofString "Length", Str.ofString "Filter", Str.ofString "DecodeParms", Str.ofString "W", Str.ofString "Index", Str.ofString "Type"]
noncomputable def own (k : Str) : Bool := ownL.any (· == k)
section
variable {w : World} {A : Around} {E : Value → Shared → Prop} {s : Shared} {g : Heap} {L t : Addr} {m : Str → Option Value}
theorem dsub {K : Type} [DecidableEq K] {knd : KeyKind PySem.Challenge.rw_nn0123_01.row.prog w K} {kvs : List (K × Value)} {k : K} {key v : Value} {value slice : PySem.Expr} {Q : Value → Shared → Prop} (F : ∀ b o, g.get? b = some o → s.heap.get? b = some o) (h : g.DictOf knd t kvs) (hkey : knd.is k key = true) (hl : valueAt kvs k = some v) (q : Q v { s with toks := s.toks + 1 })
    (hs : subscripted slice false (.ref t) key = operate [.ref t, key] (getItem (.ref t) key) := by with_unfolding_all rfl) (hg : ∀ r, letTemporaryGo value (.ref t) r = pure () := by intro _; with_unfolding_all rfl) :
    wpAny (model PySem.Challenge.rw_nn0123_01.row.prog w) A (subscriptTail value slice (.ref t) key) Q E s :=
  have hD := dictOf_keeps F h
  subscriptTail_builtin hD.typeIs slot_dict_getitem.lookup (wpAny_getItem_of hkey hD.mapOf hl q) hs hg
end
theorem str_key {w : World} {k : Str} {v : Value} (h : (SK w).is k v = true) : ∃ t, v = .str k t := Value.isStrOf_shape h
theorem own_tup {w : World} {h : Heap} (X : (hd.heap_1 w.params).In h) : ∃ items, IsTup h 373 items ∧ StrsAre items.toList ownL := by
  have e := X 373 _ rfl
  refine ⟨_, ⟨_, e, rfl, _, rfl⟩, ?_⟩
  exact .cons _ _ (.cons _ _ (.cons _ _ (.cons _ _ (.cons _ _ (.cons _ _ .nil)))))
theorem valueAt_mid {pre post : List (Str × Value)} {k : Str} {y : Value} (hn : ((pre ++ (k, y) :: post).map (·.1)).Nodup) : valueAt (pre ++ (k, y) :: post) k = some y ∧ ∀ f : Str × Value → Bool, valueAt (pre.filter f) k = none := by
  refine ⟨valueAt_of_get hn (i := pre.length) (by simp), fun f => valueAt_none_of_not_mem fun q => ?_⟩
  obtain ⟨p, hp, rfl⟩ := List.mem_map.mp q
  rw [List.map_append, List.nodup_append] at hn
  exact hn.2.2 _ (List.mem_map_of_mem (List.mem_filter.mp hp).1) _ (by simp) rfl
section
local macro_rules | `(tactic| walk_at "pyIter ref") => `(tactic| ((with_reducible show wpAny _ _ (pyIter (Value.ref _)) (fun it s₂ => LoopAtV _ _ _ _ _ _ _ _ _ it s₂) _ _); refine Hold.out ?_))
local macro_rules | `(tactic| walk_at "InvEndN") => `(tactic| refine Hold.out ?_)
local macro_rules | `(tactic| walk_at "exec For Name Name cons nil") => `(tactic| (k_here; (rename Fr _ _ _ _ => lF'); (with_unfolding_all refine' For_invVF lF' ?k1 ?k2 ?_; (case k1 => exact rfl); (case k2 => exact rfl); k_whole)))
local macro_rules | `(tactic| walk_at "compareOp NotIn str ref") => `(tactic| refine Hold.out ?_)
local macro_rules | `(tactic| walk_at "subscriptTail") => `(tactic| refine Hold.out ?_)
local macro_rules | `(tactic| walk_at "setItem ref str") => `(tactic| refine Hold.out ?_)
theorem trailer_ok {w : World} {mean : ExcName → Option Value} {mg mb : Str → Option Value} {dp un : Nat} {gd : Option (List Code)} {cn : Str} {cs : Scope} {a : Addr} {ccd : Value} {cl : List (Str × Addr)} {outer : List Env} {A₀ : Around} {base h₀ : Heap} {L : Addr} {m : Str → Option Value} {s : Shared} {Q E : Value → Shared → Prop}
    (B : Below A₀ base outer h₀) (F : Fr h₀ L s.heap m) (X : (hd.heap_1 w.params).In h₀) (T : Top view (looseW view looseN) mean mg mb h₀) (hk : cs.kind = .function)
    {t : Addr} {kvs : List (Str × Value)} {g : Heap}
    (N : News h₀ L s.heap []) (hg : ∀ b o, g.get? b = some o → s.heap.get? b = some o) (lo : (t == sysModules) = false) (hD : g.DictOf (SK w) t kvs) (hlen : kvs.length ≤ 64)
    (hd : dp + 210 < recursionLimit) (hu : un + 210 < cLine)
    (ret : ∀ (r : Addr) h' tk', Fr h₀ L h' m → But [] s.heap h' → s.heap.get? r = none → (r == sysModules) = false → h'.DictOf (SK w) r (kvs.filter fun p => !own p.1) → Q (.ref r) { s with heap := h', toks := tk' }) :
    wpAny (model PySem.Challenge.rw_nn0123_01.row.prog w) (ktrTop dp un gd cn cs L a ccd cl outer) (call (.ref 408) [.ref t]) Q E s := by
  revert X; k_fill; intro X
  refine wpAny_call ?_
  k_dflt (refine' code_defH (binds := [(Str.ofString "head", .ref t)]) ?k1 ?k2 ?k3 ?k4 ?k5 ?kA ?kF ?kK ?k6 ?k7 ?k8 ?k9 ?kB ?_ ?c2 ?c3 ?c4 ?c5; (case kA => exact rfl); (case kF => exact rfl); (case kK => assumption); (case k1 => k_asm); (case k2 => k_asm); (case k3 => k_asm); (case k4 => k_asm); (case k5 => k_asm); (case k6 => k_is); (case k7 => k_is); (case k8 => ktr_room); (case k9 => exact BindsTo.of_eq rfl); (case c5 => decide); (case kB => exact locs rfl); (case c2 => exact rfl); (case c3 => exact rfl); (case c4 => exact rfl); k_whole)
  intro g1 L1 h1 FG1 F1 N1 B1 X1 T1 hB1 hS1 hL1 hZ1
  (try dsimp only)
  (try simp only [AllLt, and_true] at hL1)
  (try k_fold)
  have hk2 : ∀ b o, g.get? b = some o → g1.get? b = some o := fun b o e => hB1 b o (hg b o e) (by simp)
  have hk1 : ∀ b o, s.heap.get? b = some o → g1.get? b = some o := fun b o e => hB1 b o e (by simp)
  k_steps
  unfold Hold
  rename Fr g1 _ _ _ => lF'
  rename News g1 _ _ _ => lN'
  rename Obj.IsDictOf (PySem.strKind _ _) _ _ => hs0
  have hD1 : g1.DictOf (SK w) t kvs := dictOf_keeps hk2 hD
  with_unfolding_all refine' kst_keys (knd := SK w) (σ := Obj × List (Str × Value)) (fun c => [(_, c.1)]) (fun _ => []) (fun c => c.1.IsDictOf (SK w) c.2) [] (fun pre c => c.2 = pre.filter fun p => !own p.1) (_, []) (by rfl) lo hD1 lF' lN' ?kf ?kk ?kp ?_ ?_
  case kf => exact hs0
  case kk => exact fun _ hp => nomatch hp
  case kp => rfl
  · intro c pre k y post v u h tk own' hkvs hkv hoff hfacts hP F2 N2
    obtain ⟨od, ks⟩ := c
    dsimp only at hfacts hP F2 N2
    obtain ⟨tv, rfl⟩ := str_key hkv
    have hnd : ((pre ++ (k, y) :: post).map (·.1)).Nodup := by
      obtain ⟨_, _, _, _, _, _, _, _, q⟩ := hD1
      rw [hkvs] at q
      exact q
    obtain ⟨hv1, hv2⟩ := valueAt_mid hnd
    obtain ⟨items, ht1, ht2⟩ := own_tup (X1.keeps F2.keep)
    k_steps
    unfold Hold
    refine notin_tuple_strs ht1 ht2 ?_
    show wpAny _ _ _ _ _ _
    cases ho : own k with
    | true =>
      rw [show (ownL.any (· == k)) = true from ho]
      k_steps
      unfold Hold
      rename Fr g1 _ _ _ => Fz
      rename News g1 _ _ _ => Nz
      refine kst_vend (od, ks) Fz Nz (fun p hp => List.mem_append_left _ hp) (fun p hp => List.mem_append_right _ hp) rfl hfacts (fun p hp => nomatch hp) ?_ ?_
      · intro z hz hp hs
        simp [kstB, hz]
      · dsimp only
        rw [List.filter_append, hP]
        simp [ho]
    | false =>
      rw [show (ownL.any (· == k)) = false from ho]
      k_steps
      unfold Hold
      refine dsub (knd := SK w) (fun b o e => F2.keep b o (hk2 b o e)) hD hkv (by rw [hkvs]; exact hv1) ?_
      k_steps
      unfold Hold
      rename News g1 _ _ _ => Nz
      have hkl : ks.length ≤ 64 := by
        have h1 : ks.length ≤ pre.length := by rw [hP]; exact List.length_filter_le _ _
        have h2 : pre.length ≤ kvs.length := by rw [hkvs]; simp
        omega
      refine kda_set (knd := SK w) (by assumption) Nz (by k_updF) hfacts hkv (by rw [sizeLine_eq]; omega) ?_
      intro h6 o6 F6 N6 hd6
      (try dsimp only at N6)
      k_steps
      unfold Hold
      refine kst_vend (o6, stored ks k y) F6 N6 (fun p hp => by rw [List.mem_singleton.mp hp]; exact List.mem_cons_self) (fun p hp => List.mem_cons_of_mem _ hp) rfl hd6 (fun p hp => nomatch hp) ?_ ?_
      · intro z hz hp hs
        simp [kstB, hz]
      · dsimp only
        rw [stored_absent (by rw [hP]; exact hv2 _), List.filter_append, hP]
        simp [ho]
  · intro c u h tk hfacts hP F2 N2
    obtain ⟨od, ks⟩ := c
    dsimp only at hfacts hP F2 N2
    k_steps
    rename News g1 _ _ _ => Nz
    have hl' := Nz _ (List.mem_cons_self)
    refine ret _ _ _ (by assumption) (But.ofFr hB1 (by assumption)) ?_ (by assumption) ?_
    · cases hq : s.heap.get? _ with
      | none => rfl
      | some o => exact absurd (hk1 _ _ hq) (by rw [hl'.2.2]; exact fun q => nomatch q)
    · rw [← hP]
      exact Heap.dictOf_iff.mpr ⟨_, hl'.1, hfacts⟩
end

set_option maxRecDepth 100000
set_option maxHeartbeats 8000000
theorem noKeys {prog : Program} {w : World} {A : Around} {E : Value → Shared → Prop} {s : Shared} {a : Addr} {xs : Array Value} {k : Nat} {sl : Array (Option Value)} {Q : Option Value → Shared → Prop}
    (hx : s.heap.get? a = some { cls := .type "list", dict := none, data := .seq xs k, slots := sl }) (hA : A.handled = none)
    (h : ∀ h' tk, (∀ b ob, s.heap.get? b = some ob → h'.get? b = some ob) → Q none { s with heap := h', toks := tk }) :
    wpAny (model prog w) A (getAttr? (.ref a) "keys") Q E s := by
  obtain ⟨hp, g, d, tk, os⟩ := s
  have hT : ∀ tk', (⟨hp, g, d, tk', os⟩ : Shared).TypeIs (.ref a) "list" := fun _ => ⟨_, hx, rfl⟩
  have f1 := sub_AttributeError
  have f3 := F.slot_list_getattribute.lookup
  have f4 := F.slot_list_getattribute.bind (.ref a)
  have f5 := am_list_getattr_none
  have hmiss : typeLookup (.type "list") "keys" = pure none := am_miss_of_fast (by kernel_rfl)
  unfold getAttr? getAttrBy? getAttrBy
  repeat (any_goals (first | assumption | exact hT _ | ((with_reducible show wpAny _ _ (call (Value.builtin "list.__getattribute__") _ _) _ _ _); refine call_meets F.slot_list_getattribute (hT _) am_entry_list_getattribute (F.args_list_getattribute_2 _ _) (meets_getattribute_miss_list a xs k sl "keys" _ hmiss (by decide)) ⟨hx, hA, fun h' tk' e hx' => ?_⟩) | wp_step))
  obtain ⟨t', u', he⟩ := hx'.there
  show wpAny _ _ (getattributeRaised _ _ _ _ _ _ _) _ _ _
  unfold getattributeRaised
  repeat (any_goals (first | assumption | wp_step))
  exact h _ _ hx'.keeps
theorem upd_entry : entryFor table "dict.update.loop" = some Builtin.«dict.update.loop» := entryFor_of_tree (by kernel_rfl)
theorem upd_plain : plainId "dict.update.loop" = true := by decide +kernel
section
variable {prog : Program} {w : World} {K : Type} [DecidableEq K] {knd : KeyKind prog w K}
noncomputable def PairsAt (knd : KeyKind prog w K) (h : Heap) : List Value → List (K × Value) → Prop
  | [], [] => True
  | v :: vs, p :: ps => (∃ a key n, v = .ref a ∧ h.get? a = some { cls := .type "tuple", data := .seq #[key, p.2] n } ∧ knd.is p.1 key = true) ∧ PairsAt knd h vs ps
  | _, _ => False
theorem PairsAt.length {h : Heap} : ∀ {vs : List Value} {ps : List (K × Value)}, PairsAt knd h vs ps → vs.length = ps.length
  | [], [], _ => rfl
  | _ :: _, _ :: _, q => by simp only [List.length_cons, PairsAt.length q.2]
theorem PairsAt.get {h : Heap} {vs : List Value} {ps : List (K × Value)} {i : Nat} {p : K × Value} (q : PairsAt knd h vs ps) (e : ps[i]? = some p) : ∃ a key n, vs[i]? = some (.ref a) ∧ h.get? a = some { cls := .type "tuple", data := .seq #[key, p.2] n } ∧ knd.is p.1 key = true := by
  induction ps generalizing vs i with
  | nil => rw [List.getElem?_nil] at e; exact absurd e (Option.some_ne_none _).symm
  | cons r ps ih =>
    cases vs with
    | nil => exact q.elim
    | cons v vs =>
      cases i with
      | zero =>
        obtain ⟨a, key, n, h1, h2, h3⟩ := q.1
        rw [List.getElem?_cons_zero] at e
        cases e
        exact ⟨a, key, n, by rw [h1]; rfl, h2, h3⟩
      | succ i =>
        rw [List.getElem?_cons_succ] at e
        rw [List.getElem?_cons_succ]
        exact ih q.2 e
theorem pairs_loop {d it l : Addr} {vs : List Value} {kvs : List (K × Value)} {h0 : Heap} (hp : PairsAt knd h0 vs kvs) (hn : (kvs.map (·.1)).Nodup) (hsz : kvs.length ≤ 64) (hd0 : h0.get? d = none) (hi0 : h0.get? it = none) (hl0 : h0.IsList l vs.toArray) (hne : it ≠ d) (n : Nat) :
    ∀ (i : Nat) (A : Around) (R : Result → Shared → Prop) (s : Shared), A.handled = none → kvs.length - i = n → i ≤ kvs.length → s.heap.IsListIter it l i → s.heap.DictOf knd d (kvs.take i) → (∀ b o, h0.get? b = some o → s.heap.get? b = some o) →
      (∀ h' tk, h'.DictOf knd d kvs → (∀ b o, h0.get? b = some o → h'.get? b = some o) → R (.ok (.ret .none)) { s with heap := h', toks := tk }) →
      codeAny (model prog w) A (.builtin "dict.update.loop" ⟨[.ref d, .ref it, rawInt i, .none], []⟩) R s := by
  induction n with
  | zero =>
    intro i A R s hA hk hi hit hd hs hR
    obtain rfl : i = kvs.length := by omega
    rw [List.take_length] at hd
    refine codeAny_builtin upd_entry ?_
    rw [Around.under_plainId upd_plain _]
    unfold Builtin.«dict.update.loop»
    have hl : s.heap.IsList l vs.toArray := hl0.at fun o e => hs l o e
    have hit0 := hit
    obtain ⟨od, es, ep, ho, hr⟩ := hd
    refine wpAny_bind (wpAny_pyNext_list_end hA hit hl (by simp [hp.length]) fun h' he => ?_)
    show wpAny _ _ (Builtin.Dict.addKeywords d [] >>= _) _ _ _
    exact wpAny_bind (wpAny_pure (wpAny_pure (hR h' _ ⟨od, es, ep, he _ _ (Ne.symm hne) ho, hr⟩ fun b o e => he b o (fun q => by rw [q, hi0] at e; cases e) (hs b o e))))
  | succ n ih =>
    intro i A R s hA hk hi hit hd hs hR
    refine codeAny_builtin upd_entry ?_
    rw [Around.under_plainId upd_plain _]
    unfold Builtin.«dict.update.loop»
    have hl : s.heap.IsList l vs.toArray := hl0.at fun o e => hs l o e
    obtain ⟨p, hpi⟩ : ∃ p, kvs[i]? = some p := ⟨kvs[i]'(by omega), by simp⟩
    obtain ⟨a, key, nn, hv, ha, hkey⟩ := hp.get hpi
    have hai : a ≠ it := fun q => by rw [q, hi0] at ha; cases ha
    refine wpAny_bind (wpAny_pyNext_list_item hit hl (x := .ref a) (by simpa using hv) fun h1 hit1 hs1 => ?_)
    have ha1 : h1.get? a = some { cls := .type "tuple", data := .seq #[key, p.2] nn } := hs1.extBut _ _ hai (hs _ _ ha)
    dsimp only
    refine wpAny_bind (wpAny_holding (wpAny_bind (wpAny_tryCatch ?_)))
    unfold Builtin.Dict.pairItems
    refine wpAny_bind (wpAny_typeOf (T := "tuple") ⟨_, ha1, rfl⟩ ?_)
    rw [if_pos (by decide)]
    refine wpAny_bind (wpAny_seqItems ha1 rfl (wpAny_pure ?_))
    show wpAny _ _ (holding [key, p.2] (dictSet d key p.2)) _ _ _
    obtain ⟨od, es, ep, ho, hr⟩ := hd
    have hd1 : h1.DictOf knd d (kvs.take i) := ⟨od, es, ep, hs1.extBut _ _ (Ne.symm hne) ho, hr⟩
    refine wpAny_holding (wpAny_dictSet_pairs hkey hd1 (fun h2 hd2 hs2 => ?_) (by rw [sizeLine_eq]; simp; omega))
    have htk : kvs.take (i + 1) = kvs.take i ++ [p] := by simp [List.take_add_one, hpi]
    have hst : stored (kvs.take i) p.1 p.2 = kvs.take (i + 1) := by
      rw [htk]
      refine stored_absent (valueAt_none_of_not_mem fun q => ?_) _
      have hn' := hn
      rw [← List.take_append_drop (i + 1) kvs, htk, List.map_append, List.map_append] at hn'
      have := (List.nodup_append.mp (List.nodup_append.mp hn').1).2.2 _ q p.1 (by simp)
      exact this rfl
    rw [hst] at hd2
    refine wpAny_pure ⟨plainId_quiet upd_plain _, ?_⟩
    have hc : ((i : Int) + 1) = ((i + 1 : Nat) : Int) := by push_cast; rfl
    rw [hc]
    refine ih (i + 1) A R _ hA (by omega) (by omega) ?_ hd2 (fun b o e => ?_) ?_
    · exact hit1.at fun o e => hs2.extBut _ _ hne e
    · exact hs2.extBut _ _ (fun q => by rw [q, hd0] at e; cases e) (hs1.extBut _ _ (fun q => by rw [q, hi0] at e; cases e) (hs b o e))
    · exact hR
theorem dict_pairs {A : Around} {E Q : Value → Shared → Prop} {s : Shared} {l : Addr} {vs : List Value} {kvs : List (K × Value)} {n : Nat} (hh : A.handled = none) (hl : s.heap.get? l = some (listOf vs.toArray n)) (hp : PairsAt knd s.heap vs kvs) (hn : (kvs.map (·.1)).Nodup) (hsz : kvs.length ≤ 64)
    (h : ∀ h' tk, h'.DictOf knd s.heap.objs.size kvs → (∀ b o, s.heap.get? b = some o → h'.get? b = some o) → Q (.ref s.heap.objs.size) { s with heap := h', toks := tk }) :
    wpAny (model prog w) A (call (.type "dict") [.ref l]) Q E s := by
  refine callType_codes (Q₁ := fun obj s₁ => obj = .ref s.heap.objs.size ∧ s₁ = { s with heap := s.heap.push { cls := .type "dict", data := .dict #[] } }) F.kt_called_dict (F.kt_typeCall_dict_1 _) F.entry_dict_init (kt_code_dict_new _ ⟨rfl, rfl⟩) ?_
  rintro obj s₁ ⟨rfl, rfl⟩
  have hnew : (s.heap.push { cls := .type "dict", data := .dict #[] }).DictOf knd s.heap.objs.size [] := Heap.DictOf.new s.heap
  have up : ∀ b o, s.heap.get? b = some o → (s.heap.push { cls := .type "dict", data := .dict #[] }).get? b = some o := fun b o e => Heap.get?_push_of_some _ e
  have hl1 := up _ _ hl
  refine ⟨hnew.typeIs, F.args_dict_init_2 _ _, ?_⟩
  unfold Builtin.«dict.__init__»
  refine wpAny_bind ?_
  unfold Builtin.Dict.selfAndRest
  refine wpAny_bind (wpAny_notOrdered_dict hnew.typeIs ?_)
  show wpAny _ _ (pure (s.heap.objs.size, [Value.ref l])) _ _ _
  refine wpAny_pure ?_
  show wpAny _ _ (Builtin.Dict.updateFrom "dict.__init__" s.heap.objs.size (.ref l) [] .none) _ _ _
  unfold Builtin.Dict.updateFrom
  refine wpAny_bind (wpAny_typeOf (T := "list") ⟨_, hl1, rfl⟩ ?_)
  rw [if_pos (by decide)]
  refine wpAny_bind (noKeys hl1 hh fun h2 tk2 k2 => ?_)
  rw [if_pos (by rfl)]
  refine wpAny_bind (wpAny_rule ?_)
  have hl2 : h2.get? l = some (listOf vs.toArray n) := k2 _ _ hl1
  refine wpAny_bind (wpAny_pyIter_list (items := vs.toArray) ⟨_, hl2, rfl, _, rfl⟩ ?_)
  have hd2 : h2.DictOf knd s.heap.objs.size [] := by
    obtain ⟨od, es, ep, ho, hr⟩ := hnew
    exact ⟨od, es, ep, k2 _ _ ho, hr⟩
  have hlt : s.heap.objs.size < h2.objs.size := by
    obtain ⟨od, es, ep, ho, hr⟩ := hd2
    exact Heap.lt_size ho
  have up3 : ∀ b o, h2.get? b = some o → (h2.push { cls := .type "list_iterator", data := .fields #[.ref l, .int 0 0] }).get? b = some o := fun b o e => Heap.get?_push_of_some _ e
  refine wpAny_pure ⟨plainId_quiet upd_plain _, pairs_loop (knd := knd) (d := s.heap.objs.size) (it := h2.objs.size) (l := l) (vs := vs) (kvs := kvs) (h0 := s.heap) hp hn hsz (Heap.get?_none_of_le (Nat.le_refl _)) (Heap.get?_none_of_le (Nat.le_of_lt hlt)) ⟨_, hl, rfl, _, rfl⟩ (Nat.ne_of_gt hlt) kvs.length 0 _ _ _ hh rfl (Nat.zero_le _) ⟨_, Heap.get?_push_size _ rfl, rfl, rfl⟩ ?_ (fun b o e => up3 _ _ (k2 _ _ (up _ _ e))) ?_⟩
  · obtain ⟨od, es, ep, ho, hr⟩ := hd2
    exact ⟨od, es, ep, up3 _ _ ho, hr⟩
  · intro h' tk hd' hk'
    exact ⟨rfl, h h' tk hd' hk'⟩
end

set_option maxRecDepth 100000
set_option maxHeartbeats 8000000

noncomputable def IsPen (q : Addr) (op oq : Obj) : Prop := ∃ x y tx ty n1 vs ns n2, op = penO q x y tx ty n1 ∧ oq = listOf vs.toArray n2 ∧ IntsAre vs ns ∧ vs.length < 64 ∧ 0 ≤ x
theorem pen_sub {h₀ h : Heap} {L p q : Addr} {op oq : Obj} {news : List (Addr × Obj)} {u1 : Obj → List (Addr × Obj)} {u2 : Obj → Obj → List (Addr × Obj)} (N : News h₀ L h news) (U1 : UpdF p op news u1) (U2 : ∀ o', UpdF q oq (u1 o') (u2 o')) : News h₀ L h [(p, op), (q, oq)] := by
  obtain ⟨pre, post, e, hg, _, _⟩ := U1.split
  obtain ⟨pre2, post2, e2, _, _, _⟩ := (U2 op).split
  rw [hg op, ← e] at e2
  exact news2 N (by rw [e]; simp) (by rw [e2]; simp)
theorem pen_news {h₀ h h' : Heap} {L p q : Addr} {op oq op' oq' : Obj} {news : List (Addr × Obj)} {u1 : Obj → List (Addr × Obj)} {u2 : Obj → Obj → List (Addr × Obj)} (N : News h₀ L h news) (U1 : UpdF p op news u1) (U2 : ∀ o', UpdF q oq (u1 o') (u2 o'))
    (b : But [p, q] h h') (N2 : News h₀ L h' [(p, op'), (q, oq')]) : News h₀ L h' (u2 op' oq') := by
  obtain ⟨pre, post, e, hg, a1, a2⟩ := U1.split
  obtain ⟨pre2, post2, e2, hg2, b1, b2⟩ := (U2 op').split
  intro x hx
  rw [hg2 oq'] at hx
  have old : x ∈ u1 op' → x.1 ≠ q → h'.get? x.1 = some x.2 ∧ @Ne Nat x.1 L ∧ h₀.get? x.1 = none := fun hm hq => by
    rw [hg op'] at hm
    rcases List.mem_append.mp hm with hm | hm
    · have := N x (by rw [e]; exact List.mem_append_left _ hm)
      exact ⟨b _ _ this.1 (by simp [a1 x hm, hq]), this.2⟩
    · rcases List.mem_cons.mp hm with rfl | hm
      · exact N2 _ List.mem_cons_self
      · have := N x (by rw [e]; exact List.mem_append_right _ (List.mem_cons_of_mem _ hm))
        exact ⟨b _ _ this.1 (by simp [a2 x hm, hq]), this.2⟩
  rcases List.mem_append.mp hx with hm | hm
  · exact old (by rw [e2]; exact List.mem_append_left _ hm) (b1 x hm)
  · rcases List.mem_cons.mp hm with rfl | hm
    · exact N2 _ (by simp)
    · exact old (by rw [e2]; exact List.mem_append_right _ (List.mem_cons_of_mem _ hm)) (b2 x hm)
theorem draw_pen {w : World} {mean : ExcName → Option Value} {mg mb : Str → Option Value} {dp un : Nat} {gd : Option (List Code)} {cn : Str} {cs : Scope} {a : Addr} {ccd : Value} {cl : List (Str × Addr)} {outer : List Env} {A₀ : Around} {base h₀ : Heap} {L : Addr} {m : Str → Option Value} {s : Shared} {Q E : Value → Shared → Prop}
    (B : Below A₀ base outer h₀) (F : Fr h₀ L s.heap m) (X : (hd.heap_1 w.params).In h₀) (T : Top view (looseW view looseN) mean mg mb h₀) (hk : cs.kind = .function)
    {p q : Addr} {op oq : Obj} {news : List (Addr × Obj)} {u1 : Obj → List (Addr × Obj)} {u2 : Obj → Obj → List (Addr × Obj)} {many : Int} {tm : Tok}
    (N : News h₀ L s.heap news) (U1 : UpdF p op news u1) (U2 : ∀ o', UpdF q oq (u1 o') (u2 o')) (hp : IsPen q op oq) (hpq : @Ne Nat p q) (hm : 0 < many)
    (hd : dp + 200 < recursionLimit) (hu : un + 200 < cLine)
    (ret : ∀ (r : Int) t h' tk' op' oq', Fr h₀ L h' m → News h₀ L h' (u2 op' oq') → IsPen q op' oq' → But [p, q] s.heap h' → 0 ≤ r → r < many → Q (.int r t) { s with heap := h', toks := tk' }) :
    wpAny (model PySem.Challenge.rw_nn0123_01.row.prog w) (ktrTop dp un gd cn cs L a ccd cl outer) (call (.ref 427) [.ref p, .int many tm]) Q E s := by
  have N0 := pen_sub N U1 U2
  obtain ⟨x, y, tx, ty, n1, vs, ns, n2, rfl, rfl, hv, hl, hx⟩ := hp
  refine draw_ok w mean mg mb dp un gd cn cs a ccd cl outer A₀ base h₀ L m s Q E B F X T hk p q x y many tx ty tm n1 n2 vs ns N0 hv hpq hm hx hl hd hu ?_
  intro r t h' tk' x' y' tx' ty' n1' n2' vs' ns' F' N' hv' hl' hx' hb h0 h1
  exact ret r t h' tk' _ _ F' (pen_news N U1 U2 hb N') ⟨x', y', tx', ty', n1', vs', ns', n2', rfl, rfl, hv', hl', hx'⟩ hb h0 h1
local macro_rules | `(tactic| walk_at "call ref") => `(tactic| refine holdAt 427 ?_)
section
variable {prog : Program} {w : World} {A : Around} {E : Value → Shared → Prop} {s : Shared} {l : Addr} {vs : List Value} {n : Nat}
theorem len_list {Q : Value → Shared → Prop} (hl : s.heap.get? l = some (listOf vs.toArray n)) (hle : vs.length ≤ 64) (h : Q (.int vs.length (s.toks + 1)) { s with toks := s.toks + 1 + 1 }) : wpAny (model prog w) A (call (.builtin "len") [.ref l]) Q E s := by
  have e : (List.toArray vs).size = vs.length := List.size_toArray
  exact call_len_list (items := vs.toArray) ⟨_, hl, rfl, _, rfl⟩ (by rw [e]; omega) (by rw [e]; exact h)
theorem sub_list {Q : Value → Shared → Prop} {value slice : PySem.Expr} {k : Int} {t : Tok} {x : Value} (hl : s.heap.get? l = some (listOf vs.toArray n)) (h0 : 0 ≤ k) (hfit : k < 2 ^ 63) (hx : vs[k.toNat]? = some x) (h : Q x s)
    (hs : subscripted slice false (.ref l) (.int k t) = operate [.ref l, .int k t] (getItem (.ref l) (.int k t)) := by with_unfolding_all rfl) (hg : ∀ r, letTemporaryGo value (.ref l) r = pure () := by intro _; with_unfolding_all rfl) :
    wpAny (model prog w) A (subscriptTail value slice (.ref l) (.int k t)) Q E s :=
  subscriptTail_builtin (T := "list") ⟨_, hl, rfl⟩ slot_list_getitem.lookup (wpAny_getItem_list (items := vs.toArray) ⟨_, hl, rfl, _, rfl⟩ h0 hfit (by simpa using hx) h) hs hg
end
section
local macro_rules | `(tactic| walk_at "call builtin:len") => `(tactic| (k_here; (with_reducible show wpAny _ _ (call (Value.builtin "len") [Value.ref _]) _ _ _); refine' len_list (by first | assumption | exact Fr.keep (by assumption) _ _ (by assumption)) (by omega) ?_; (try dsimp only)))
local macro_rules | `(tactic| walk_at "subscriptTail") => `(tactic| refine Hold.out ?_)
theorem pick_ok {w : World} {mean : ExcName → Option Value} {mg mb : Str → Option Value} {dp un : Nat} {gd : Option (List Code)} {cn : Str} {cs : Scope} {a : Addr} {ccd : Value} {cl : List (Str × Addr)} {outer : List Env} {A₀ : Around} {base h₀ : Heap} {L : Addr} {m : Str → Option Value} {s : Shared} {Q E : Value → Shared → Prop}
    (B : Below A₀ base outer h₀) (F : Fr h₀ L s.heap m) (X : (hd.heap_1 w.params).In h₀) (T : Top view (looseW view looseN) mean mg mb h₀) (hk : cs.kind = .function)
    {p q : Addr} {op oq : Obj} {news : List (Addr × Obj)} {u1 : Obj → List (Addr × Obj)} {u2 : Obj → Obj → List (Addr × Obj)} {l : Addr} {vs : List Value} {n : Nat}
    (N : News h₀ L s.heap news) (U1 : UpdF p op news u1) (U2 : ∀ o', UpdF q oq (u1 o') (u2 o')) (hp : IsPen q op oq) (hpq : @Ne Nat p q) (hl : s.heap.get? l = some (listOf vs.toArray n)) (hlp : l ∉ [p, q]) (hne : 0 < vs.length) (hle : vs.length ≤ 64)
    (hd : dp + 210 < recursionLimit) (hu : un + 210 < cLine)
    (ret : ∀ (v : Value) h' tk' op' oq', Fr h₀ L h' m → News h₀ L h' (u2 op' oq') → IsPen q op' oq' → But [p, q] s.heap h' → v ∈ vs → Q (v) { s with heap := h', toks := tk' }) :
    wpAny (model PySem.Challenge.rw_nn0123_01.row.prog w) (ktrTop dp un gd cn cs L a ccd cl outer) (call (.ref 434) [.ref p, .ref l]) Q E s := by
  revert X; k_fill; intro X
  have N0 := pen_sub N U1 U2
  refine wpAny_call ?_
  k_dflt (refine' code_defH (binds := [(Str.ofString "pen", .ref p), (Str.ofString "some", .ref l)]) ?k1 ?k2 ?k3 ?k4 ?k5 ?kA ?kF ?kK ?k6 ?k7 ?k8 ?k9 ?kB ?_ ?c2 ?c3 ?c4 ?c5; (case kA => exact rfl); (case kF => exact rfl); (case kK => assumption); (case k1 => k_asm); (case k2 => k_asm); (case k3 => k_asm); (case k4 => k_asm); (case k5 => k_asm); (case k6 => k_is); (case k7 => k_is); (case k8 => ktr_room); (case k9 => exact BindsTo.of_eq rfl); (case c5 => decide); (case kB => exact locs rfl); (case c2 => exact rfl); (case c3 => exact rfl); (case c4 => exact rfl); k_whole)
  intro g1 L1 h1 FG1 F1 N1 B1 X1 T1 hB1 hS1 hL1 hZ1
  (try dsimp only)
  (try simp only [AllLt, and_true] at hL1)
  (try k_fold)
  have hl1 : g1.get? l = some (listOf vs.toArray n) := hB1 _ _ hl (by simpa using hlp)
  have hl1c := Fr.keep F1 _ _ hl1
  have hll : g1.IsList l vs.toArray := ⟨_, hl1, rfl, _, rfl⟩
  (k_steps; repeat' ((refine Hold.mk ?_; first | ((with_reducible show wpAny _ _ (call (Value.ref 427) [_, _]) _ _ _); (refine' draw_pen ?B ?F ?X ?T ?hk ?N ?U1 ?U2 ?hp ?hpq ?hm ?hd ?hu ?_; (case B => k_asm); (case F => k_asm); (case X => k_asm); (case T => k_asm); (case hk => first | exact rfl | assumption); (case N => k_asm); (case U1 => k_updF); (case hp => assumption); (case hpq => assumption); (case U2 => (intro zo8; (try dsimp only); k_updF)); (case hm => first | decide | omega); (case hd => ktr_room); (case hu => ktr_units)); intro zr9 zt9 zh9 ztk9 zop9 zoq9 zF9 zN9 zhp9 zhb9 zh09 zh19; (try dsimp only at zN9))); k_steps))
  unfold Hold
  rename 0 ≤ _ => h09
  rename _ < (vs.length : Int) => h19
  rename Fr g1 _ _ _ => F9
  obtain ⟨v, hv⟩ : ∃ v, vs[(Int.toNat _)]? = some v := ⟨_, List.getElem?_eq_getElem ((Int.toNat_lt h09).mpr h19)⟩
  refine sub_list (F9.keep _ _ hl1) h09 (by omega) hv ?_
  have hmem : v ∈ vs := List.mem_of_getElem? hv
  (k_steps; repeat' ((refine Hold.mk ?_; first | ((with_reducible show wpAny _ _ (call (Value.ref 427) [_, _]) _ _ _); (refine' draw_pen ?B ?F ?X ?T ?hk ?N ?U1 ?U2 ?hp ?hpq ?hm ?hd ?hu ?_; (case B => k_asm); (case F => k_asm); (case X => k_asm); (case T => k_asm); (case hk => first | exact rfl | assumption); (case N => k_asm); (case U1 => k_updF); (case hp => assumption); (case hpq => assumption); (case U2 => (intro zo8; (try dsimp only); k_updF)); (case hm => first | decide | omega); (case hd => ktr_room); (case hu => ktr_units)); intro zr9 zt9 zh9 ztk9 zop9 zoq9 zF9 zN9 zhp9 zhb9 zh09 zh19; (try dsimp only at zN9))); k_steps))
  exact ret _ _ _ _ _ (by assumption) (pen_news N U1 U2 (But.ofFr hB1 F9) (by assumption)) (by assumption) (But.ofFr hB1 F9) hmem
end

set_option maxRecDepth 100000
set_option maxHeartbeats 8000000

theorem fresh1 {h g : Heap} {p q x : Addr} (b : But [p, q] h g) (hg : g.get? x = none) (h1 : x ≠ p) (h2 : x ≠ q) : h.get? x = none := by
  cases e : h.get? x with
  | none => rfl
  | some o => have := b x o e (by simp [h1, h2]); rw [hg] at this; cases this
theorem fresh_inst {g h' h : Heap} {L p q x dx C : Addr} {od : Obj} {news : List (Addr × Obj)} (N : News g L h' news) (b : But [p, q] h g) (m1 : (x, instObj C dx) ∈ news) (m2 : (dx, od) ∈ news) (a1 : x ≠ p) (a2 : x ≠ q) (b1 : dx ≠ p) (b2 : dx ≠ q) :
    ∀ y ∈ [(x, instObj C dx), (dx, od)], h'.get? y.1 = some y.2 ∧ h.get? y.1 = none := fun y hy => by
  rcases List.mem_cons.mp hy with rfl | hy
  · exact ⟨(N _ m1).1, fresh1 b (N _ m1).2.2 a1 a2⟩
  · rw [List.mem_singleton.mp hy]
    exact ⟨(N _ m2).1, fresh1 b (N _ m2).2.2 b1 b2⟩
theorem off2 {l p q : Addr} (h1 : l ≠ p) (h2 : l ≠ q) : l ∉ [p, q] := by simp [h1, h2]
theorem news_here {h₀ h : Heap} {L : Addr} {news : List (Addr × Obj)} {p : Addr × Obj} (N : News h₀ L h news) (hm : p ∈ news) : h.get? p.1 = some p.2 := (N p hm).1
noncomputable def Has (R : List (Addr × Obj)) (v : Value) (d : D) : Prop := ∀ h : Heap, (∀ x ∈ R, h.get? x.1 = some x.2) → IsD h v d
local macro_rules | `(tactic| kcf_m) => `(tactic| (refine' code_defH ?k1 ?k2 ?k3 ?k4 ?k5 ?kA ?kF ?kK ?k6 ?k7 ?k8 ?k9 ?kB ?_ ?c2 ?c3 ?c4 ?c5; (case kA => exact rfl); (case kF => exact rfl); (case kK => first | exact rfl | assumption); (case k1 => k_asm); (case k2 => k_asm); (case k3 => k_asm); (case k4 => k_asm); (case k5 => k_asm); (case k6 => k_is); (case k7 => k_is); (case k8 => ktr_room); (case k9 => exact BindsTo.of_eq rfl); (case c5 => decide); (case kB => exact locs rfl); (case c2 => exact rfl); (case c3 => exact rfl); (case c4 => exact rfl); k_whole; intro g' L' h' FG' F' N' B' X' T' hBut' hSt' hLt' hSz'; (try dsimp only); (try simp only [AllLt, and_true] at hLt'); (try k_fold)))
local macro_rules | `(tactic| walk_at "call ref") => `(tactic| refine holdAt 434 ?_)
section
local macro_rules | `(tactic| k_enter) => `(tactic| kcf_m)
theorem part_ok {w : World} {mean : ExcName → Option Value} {mg mb : Str → Option Value} {dp un : Nat} {gd : Option (List Code)} {cn : Str} {cs : Scope} {a : Addr} {ccd : Value} {cl : List (Str × Addr)} {outer : List Env} {A₀ : Around} {base h₀ : Heap} {L : Addr} {m : Str → Option Value} {s : Shared} {Q E : Value → Shared → Prop}
    (B : Below A₀ base outer h₀) (F : Fr h₀ L s.heap m) (X : (hd.heap_1 w.params).In h₀) (T : Top view (looseW view looseN) mean mg mb h₀) (hk : cs.kind = .function)
    {p q : Addr} {op oq : Obj} {news : List (Addr × Obj)} {u1 : Obj → List (Addr × Obj)} {u2 : Obj → Obj → List (Addr × Obj)} 
    (N : News h₀ L s.heap news) (U1 : UpdF p op news u1) (U2 : ∀ o', UpdF q oq (u1 o') (u2 o')) (hp : IsPen q op oq) (hpq : @Ne Nat p q) 
    (hd : dp + 220 < recursionLimit) (hu : un + 220 < cLine)
    (ret : ∀ (v : Value) (R : List (Addr × Obj)) (pp : P) h' tk' op' oq', Fr h₀ L h' m → News h₀ L h' (u2 op' oq') → IsPen q op' oq' → But [p, q] s.heap h' → (∀ x ∈ R, h'.get? x.1 = some x.2 ∧ s.heap.get? x.1 = none) → Has R v (.p pp) → Q (v) { s with heap := h', toks := tk' }) :
    wpAny (model PySem.Challenge.rw_nn0123_01.row.prog w) (ktrTop dp un gd cn cs L a ccd cl outer) (call (.ref 441) [.ref p]) Q E s := by
  revert X; k_fill; intro X
  have N0 := pen_sub N U1 U2
  refine wpAny_call ?_
  k_dflt (refine' code_defH (binds := [(Str.ofString "pen", .ref p)]) ?k1 ?k2 ?k3 ?k4 ?k5 ?kA ?kF ?kK ?k6 ?k7 ?k8 ?k9 ?kB ?_ ?c2 ?c3 ?c4 ?c5; (case kA => exact rfl); (case kF => exact rfl); (case kK => assumption); (case k1 => k_asm); (case k2 => k_asm); (case k3 => k_asm); (case k4 => k_asm); (case k5 => k_asm); (case k6 => k_is); (case k7 => k_is); (case k8 => ktr_room); (case k9 => exact BindsTo.of_eq rfl); (case c5 => decide); (case kB => exact locs rfl); (case c2 => exact rfl); (case c3 => exact rfl); (case c4 => exact rfl); k_whole)
  intro g1 L1 h1 FG1 F1 N1 B1 X1 T1 hB1 hS1 hL1 hZ1
  (try dsimp only)
  (try simp only [AllLt, and_true] at hL1)
  (try k_fold)
  (k_steps; repeat' ((refine Hold.mk ?_; first | ((with_reducible show wpAny _ _ (call (Value.ref 434) [_, _]) _ _ _); (refine' pick_ok ?B ?F ?X ?T ?hk ?N ?U1 ?U2 ?hp ?hpq ?hl ?hlp ?hne ?hle ?hd ?hu ?_; (case B => k_asm); (case F => k_asm); (case X => k_asm); (case T => k_asm); (case hk => first | exact rfl | assumption); (case N => k_asm); (case U1 => k_updF); (case hp => assumption); (case hpq => assumption); (case U2 => (intro zo8; (try dsimp only); k_updF)); (case hl => exact (news_here (by assumption) (by k_mem))); (case hlp => exact off2 (by k_ne) (by k_ne)); (case hne => exact Nat.le_of_ble_eq_true rfl); (case hle => exact Nat.le_of_ble_eq_true rfl); (case hd => ktr_room); (case hu => ktr_units)); intro zv9 zh9 ztk9 zop9 zoq9 zF9 zN9 zhp9 zhb9 zhm9; (try dsimp only at zN9); refine Hold.out ?_) | ((with_reducible show wpAny _ _ (call (Value.ref 427) [_, _]) _ _ _); (refine' draw_pen ?B ?F ?X ?T ?hk ?N ?U1 ?U2 ?hp ?hpq ?hm ?hd ?hu ?_; (case B => k_asm); (case F => k_asm); (case X => k_asm); (case T => k_asm); (case hk => first | exact rfl | assumption); (case N => k_asm); (case U1 => k_updF); (case hp => assumption); (case hpq => assumption); (case U2 => (intro zo8; (try dsimp only); k_updF)); (case hm => first | decide | omega); (case hd => ktr_room); (case hu => ktr_units)); intro zr9 zt9 zh9 ztk9 zop9 zoq9 zF9 zN9 zhp9 zhb9 zh09 zh19; (try dsimp only at zN9))); k_steps))
  unfold Hold
  rename _ ∈ [_, _, _, _, _, _, _, _, _, _, _, _, _, _] => hm9
  (k_steps; repeat' ((refine Hold.mk ?_; first | ((with_reducible show wpAny _ _ (call (Value.ref 434) [_, _]) _ _ _); (refine' pick_ok ?B ?F ?X ?T ?hk ?N ?U1 ?U2 ?hp ?hpq ?hl ?hlp ?hne ?hle ?hd ?hu ?_; (case B => k_asm); (case F => k_asm); (case X => k_asm); (case T => k_asm); (case hk => first | exact rfl | assumption); (case N => k_asm); (case U1 => k_updF); (case hp => assumption); (case hpq => assumption); (case U2 => (intro zo8; (try dsimp only); k_updF)); (case hl => exact (news_here (by assumption) (by k_mem))); (case hlp => exact off2 (by k_ne) (by k_ne)); (case hne => exact Nat.le_of_ble_eq_true rfl); (case hle => exact Nat.le_of_ble_eq_true rfl); (case hd => ktr_room); (case hu => ktr_units)); intro zv9 zh9 ztk9 zop9 zoq9 zF9 zN9 zhp9 zhb9 zhm9; (try dsimp only at zN9); refine Hold.out ?_) | ((with_reducible show wpAny _ _ (call (Value.ref 427) [_, _]) _ _ _); (refine' draw_pen ?B ?F ?X ?T ?hk ?N ?U1 ?U2 ?hp ?hpq ?hm ?hd ?hu ?_; (case B => k_asm); (case F => k_asm); (case X => k_asm); (case T => k_asm); (case hk => first | exact rfl | assumption); (case N => k_asm); (case U1 => k_updF); (case hp => assumption); (case hpq => assumption); (case U2 => (intro zo8; (try dsimp only); k_updF)); (case hm => first | decide | omega); (case hd => ktr_room); (case hu => ktr_units)); intro zr9 zt9 zh9 ztk9 zop9 zoq9 zF9 zN9 zhp9 zhb9 zh09 zh19; (try dsimp only at zN9))); k_steps))
  rename News g1 _ _ _ => Nz
  rename Fr g1 _ _ _ => Fz
  rename News h₀ _ _ (_ :: _) => Ny
  rename IsPen q _ _ => hpz
  have hbut := But.ofFr hB1 Fz
  have hnews := pen_news N U1 U2 hbut (news2 Ny (by k_mem) (by k_mem))
  simp only [List.mem_cons, List.not_mem_nil, or_false] at hm9
  rcases hm9 with rfl | rfl | rfl | rfl | rfl | rfl | rfl | rfl | rfl | rfl | rfl | rfl | rfl | rfl
  iterate 8 exact ret _ [] (.int _) _ _ _ _ (by assumption) hnews hpz hbut (fun _ q => nomatch q) (fun _ _ => ⟨_, rfl⟩)
  · exact ret _ [] (.bool true) _ _ _ _ (by assumption) hnews hpz hbut (fun _ q => nomatch q) (fun _ _ => rfl)
  · exact ret _ [] .none _ _ _ _ (by assumption) hnews hpz hbut (fun _ q => nomatch q) (fun _ _ => rfl)
  · have hf := fresh_inst (C := 155) Nz hB1 (by k_mem) (by k_mem) (by k_ne) (by k_ne) (by k_ne) (by k_ne)
    exact ret _ _ .dec _ _ _ _ (by assumption) hnews hpz hbut hf (fun h hR => ⟨_, _, _, rfl, hR _ List.mem_cons_self, hR _ (List.mem_cons_of_mem _ List.mem_cons_self)⟩)
  · have hf := fresh_inst (C := 261) Nz hB1 (by k_mem) (by k_mem) (by k_ne) (by k_ne) (by k_ne) (by k_ne)
    exact ret _ _ (.ref _) _ _ _ _ (by assumption) hnews hpz hbut hf (fun h hR => ⟨_, _, _, _, _, _, rfl, hR _ List.mem_cons_self, hR _ (List.mem_cons_of_mem _ List.mem_cons_self), rfl, rfl⟩)
  · exact ret _ [] (.str _) _ _ _ _ (by assumption) hnews hpz hbut (fun _ q => nomatch q) (fun _ _ => ⟨_, rfl⟩)
  · exact ret _ [] (.int _) _ _ _ _ (by assumption) hnews hpz hbut (fun _ q => nomatch q) (fun _ _ => ⟨_, rfl⟩)
end

set_option maxRecDepth 100000
set_option maxHeartbeats 8000000
section
variable {prog : Program} {w : World} {A : Around} {s : Shared} {h₀ : Heap} {L : Addr} {m : Str → Option Value} {env : Env} {elt ct : Expr} {x : Str} {scope : Scope} {cl : List (Str × Addr)} {S : List (Addr × Obj) → Prop} {P : Nat → Value → Prop} {Fin : List Value → List (Addr × Obj) → Prop} {n : Nat} {news : List (Addr × Obj)}
theorem comp_allN (Inv : Nat → List Value → List (Addr × Obj) → Prop)
    (turn : ∀ i v ys news I oI C oC D m₂ h tk (E' : Value → Shared → Prop), i < n → P i v → Inv i ys news → NsObj oC m₂ → m₂ x = some v → Fr h₀ L h m → News h₀ L h ((I, oI) :: (C, oC) :: (D, lst ys) :: news) → Off3 I C D news → ((@Ne Nat I C) ∧ (@Ne Nat I D) ∧ (@Ne Nat C D)) →
      wpAny (model prog w) A (eval elt (compEnvC scope cl C env)) (CompEnd h₀ L m { s with heap := h, toks := tk } I oI C oC D (lst ys) S (fun y news' => Inv (i + 1) (ys ++ [y]) news')) E' { s with heap := h, toks := tk })
    (start : Inv 0 [] news) (fin : ∀ ys news', Inv n ys news' → Fin ys news') : CompRest prog w A h₀ L m env elt x scope cl s S P Fin n 0 [] news := by
  have key : ∀ (k i : Nat) (ys : List Value) (news : List (Addr × Obj)), i + k = n → Inv i ys news → CompRest prog w A h₀ L m env elt x scope cl s S P Fin k i ys news := by
    intro k
    induction k with
    | zero => intro i ys news e hi; exact CompRest.zero (fin ys news (by rw [← e]; exact hi))
    | succ k ih =>
      intro i ys news e hi
      refine CompRest.succ fun v I oI C oC D m₂ h tk E' hv hC hx F N off ne => ?_
      refine wpAny_mono (turn i v ys news I oI C oC D m₂ h tk E' (by omega) hv hi hC hx F N off ne) (fun y s₁ q => ?_) fun _ _ z => z
      obtain ⟨h', tk', news', e1, F', N', o', S', hi'⟩ := q
      exact ⟨h', tk', news', e1, F', N', o', S', ih (i + 1) _ _ (by omega) hi'⟩
  exact key n 0 [] news (by omega) start
end
noncomputable def HasPs (R : List (Addr × Obj)) (vs : List Value) (ps : List P) : Prop := ∀ h : Heap, (∀ x ∈ R, h.get? x.1 = some x.2) → IsPs h vs ps
theorem IsPs.snoc {g : Heap} {v : Value} {p : P} (h : IsP g v p) : ∀ {vs : List Value} {ps : List P}, IsPs g vs ps → IsPs g (vs ++ [v]) (ps ++ [p])
  | [], [], _ => ⟨h, trivial⟩
  | _ :: _, _ :: _, q => ⟨q.1, IsPs.snoc h q.2⟩
theorem HasPs.snoc {R R' : List (Addr × Obj)} {vs : List Value} {ps : List P} {v : Value} {p : P} (a : HasPs R vs ps) (b : Has R' v (.p p)) : HasPs (R ++ R') (vs ++ [v]) (ps ++ [p]) := fun h hR =>
  IsPs.snoc (b h fun x hx => hR x (List.mem_append_right _ hx)) (a h fun x hx => hR x (List.mem_append_left _ hx))
theorem news_add {g h h0 : Heap} {L : Addr} {m : Str → Option Value} {news R : List (Addr × Obj)} (N : News g L h news) (F : Fr g L h0 m) (hR : ∀ x ∈ R, h.get? x.1 = some x.2 ∧ h0.get? x.1 = none) : News g L h (news ++ R) := fun x hx => by
  rcases List.mem_append.mp hx with hx | hx
  · exact N x hx
  · obtain ⟨h1, h2⟩ := hR x hx
    refine ⟨h1, fun e => ?_, ?_⟩
    · obtain ⟨ol, _, _, hl, _⟩ := F.ns
      rw [show x.1 = L from e] at h2
      rw [h2] at hl; cases hl
    · cases q : g.get? x.1 with
      | none => rfl
      | some o => have := F.keep _ _ q; rw [h2] at this; cases this
theorem fresh_ne {h0 : Heap} {b x : Addr} {o : Obj} (h1 : h0.get? b = some o) (h2 : h0.get? x = none) : x ≠ b := fun e => by rw [e, h1] at h2; cases h2
theorem small_ok {b : Int} (h0 : 0 ≤ b) (h1 : b ≤ 60) : Builtin.Range.small 0 b 1 = true := by
  have e := rangeSize_nat 0 b
  unfold Builtin.Range.small
  simp only [e]
  have hf : ∀ i : Int, 0 ≤ i → i ≤ 60 → Builtin.Range.rangeFitsLong i = true := fun i a b => by
    unfold Builtin.Range.rangeFitsLong
    simp only [Bool.and_eq_true, decide_eq_true_eq]
    omega
  rw [hf 0 (by omega) (by omega), hf b h0 h1, hf 1 (by omega) (by omega), hf _ (by omega) (by omega), hf (b + (1 - 1)) (by omega) (by omega)]
  simp
theorem emptyDict_obj {K : Type} [DecidableEq K] {prog : Program} {w : World} {knd : KeyKind prog w K} {o : Obj} (x : o.IsDictOf knd []) : ∃ n, o = dictOf [] n := by
  obtain ⟨es, ep, ⟨h1, h2, h3⟩, hd, _, hp, _⟩ := x
  obtain ⟨c, d, dt, sl⟩ := o
  dsimp only at h1 h2 h3 hd
  subst h1 h2 h3 hd
  have : es.toList = [] := by cases h : es.toList with | nil => rfl | cons a b => rw [h] at hp; cases hp
  refine ⟨ep, ?_⟩
  have : es = #[] := by simpa using this
  rw [this]
theorem fresh_one {g h' h : Heap} {L p q x : Addr} {od : Obj} {news : List (Addr × Obj)} (N : News g L h' news) (b : But [p, q] h g) (m1 : (x, od) ∈ news) (a1 : x ≠ p) (a2 : x ≠ q) :
    ∀ y ∈ [(x, od)], h'.get? y.1 = some y.2 ∧ h.get? y.1 = none := fun y hy => by
  rw [List.mem_singleton.mp hy]
  exact ⟨(N _ m1).1, fresh1 b (N _ m1).2.2 a1 a2⟩
local macro_rules | `(tactic| walk_at "call ref") => `(tactic| refine holdAt 441 ?_)
section
local macro_rules | `(tactic| k_enter) => `(tactic| kcf_m)
local macro_rules | `(tactic| k_all) => `(tactic| with_reducible assumption)
local macro_rules | `(tactic| walk_at "CompSrc") => `(tactic| refine Hold.out ?_)
theorem array_ok {w : World} {mean : ExcName → Option Value} {mg mb : Str → Option Value} {dp un : Nat} {gd : Option (List Code)} {cn : Str} {cs : Scope} {a : Addr} {ccd : Value} {cl : List (Str × Addr)} {outer : List Env} {A₀ : Around} {base h₀ : Heap} {L : Addr} {m : Str → Option Value} {s : Shared} {Q E : Value → Shared → Prop}
    (B : Below A₀ base outer h₀) (F : Fr h₀ L s.heap m) (X : (hd.heap_1 w.params).In h₀) (T : Top view (looseW view looseN) mean mg mb h₀) (hk : cs.kind = .function)
    {p q : Addr} {op oq : Obj} {news : List (Addr × Obj)} {u1 : Obj → List (Addr × Obj)} {u2 : Obj → Obj → List (Addr × Obj)} {many : Int} {tm : Tok}
    (N : News h₀ L s.heap news) (U1 : UpdF p op news u1) (U2 : ∀ o', UpdF q oq (u1 o') (u2 o')) (hp : IsPen q op oq) (hpq : @Ne Nat p q) (hm0 : 0 ≤ many) (hm1 : many ≤ 60)
    (hd : dp + 230 < recursionLimit) (hu : un + 230 < cLine)
    (ret : ∀ (v : Value) (R : List (Addr × Obj)) (d : D) h' tk' op' oq', Fr h₀ L h' m → News h₀ L h' (u2 op' oq') → IsPen q op' oq' → But [p, q] s.heap h' → (∀ x ∈ R, h'.get? x.1 = some x.2 ∧ s.heap.get? x.1 = none) → Has R v d → Q (v) { s with heap := h', toks := tk' }) :
    wpAny (model PySem.Challenge.rw_nn0123_01.row.prog w) (ktrTop dp un gd cn cs L a ccd cl outer) (call (.ref 446) [.ref p, .int many tm]) Q E s := by
  revert X; k_fill; intro X
  have N0 := pen_sub N U1 U2
  refine wpAny_call ?_
  k_dflt (refine' code_defHC (binds := [(Str.ofString "pen", .ref p), (Str.ofString "many", .int many tm)]) ?k1 ?k2 ?k3 ?k4 ?k5 ?kA ?kF ?kK ?k6 ?k7 ?k8 ?k9 ?kB ?kD ?_ ?c2 ?c3 ?c4; (case kA => exact rfl); (case kF => exact rfl); (case kK => assumption); (case k1 => k_asm); (case k2 => k_asm); (case k3 => k_asm); (case k4 => k_asm); (case k5 => k_asm); (case k6 => k_is); (case k7 => k_is); (case k8 => ktr_room); (case k9 => exact BindsTo.of_eq rfl); (case kB => exact rfl); (case kD => decide +kernel); (case c2 => exact rfl); (case c3 => exact rfl); (case c4 => exact rfl); k_whole)
  intro g1 L1 h1 tk1 cells1 FG1 F1 N1 Y1 B1 X1 T1 hB1 hS1 hL1 hZ1
  k_cells Y1
  (try simp only [List.cons_append, List.nil_append] at N1)
  (try dsimp only)
  (try simp only [AllLt, and_true] at hL1)
  (try k_fold)
  (k_steps; repeat' ((refine Hold.mk ?_; first | ((with_reducible show wpAny _ _ (call (Value.ref 441) [_]) _ _ _); (refine' part_ok ?B ?F ?X ?T ?hk ?N ?U1 ?U2 ?hp ?hpq  ?hd ?hu ?_; (case B => k_asm); (case F => k_asm); (case X => k_asm); (case T => k_asm); (case hk => first | exact rfl | assumption); (case N => k_asm); (case U1 => k_updF); (case hp => assumption); (case hpq => assumption); (case U2 => (intro zo8; (try dsimp only); k_updF)); (case hd => ktr_room); (case hu => ktr_units)); intro zv9 zR9 zpp9 zh9 ztk9 zop9 zoq9 zF9 zN9 zhp9 zhb9 zhf9 zhr9; (try dsimp only at zN9); refine Hold.out ?_) | ((with_reducible show wpAny _ _ (call (Value.ref 434) [_, _]) _ _ _); (refine' pick_ok ?B ?F ?X ?T ?hk ?N ?U1 ?U2 ?hp ?hpq ?hl ?hlp ?hne ?hle ?hd ?hu ?_; (case B => k_asm); (case F => k_asm); (case X => k_asm); (case T => k_asm); (case hk => first | exact rfl | assumption); (case N => k_asm); (case U1 => k_updF); (case hp => assumption); (case hpq => assumption); (case U2 => (intro zo8; (try dsimp only); k_updF)); (case hl => exact (news_here (by assumption) (by k_mem))); (case hlp => exact off2 (by k_ne) (by k_ne)); (case hne => exact Nat.le_of_ble_eq_true rfl); (case hle => exact Nat.le_of_ble_eq_true rfl); (case hd => ktr_room); (case hu => ktr_units)); intro zv9 zh9 ztk9 zop9 zoq9 zF9 zN9 zhp9 zhb9 zhm9; (try dsimp only at zN9); refine Hold.out ?_) | ((with_reducible show wpAny _ _ (call (Value.ref 427) [_, _]) _ _ _); (refine' draw_pen ?B ?F ?X ?T ?hk ?N ?U1 ?U2 ?hp ?hpq ?hm ?hd ?hu ?_; (case B => k_asm); (case F => k_asm); (case X => k_asm); (case T => k_asm); (case hk => first | exact rfl | assumption); (case N => k_asm); (case U1 => k_updF); (case hp => assumption); (case hpq => assumption); (case U2 => (intro zo8; (try dsimp only); k_updF)); (case hm => first | decide | omega); (case hd => ktr_room); (case hu => ktr_units)); intro zr9 zt9 zh9 ztk9 zop9 zoq9 zF9 zN9 zhp9 zhb9 zh09 zh19; (try dsimp only at zN9))); k_steps))
  · dsimp only [Hold]
    rename _ ∈ [_, _, _, _, _] => hm9
    rename Obj.IsDictOf (PySem.strKind _ _) _ _ => hdo
    obtain ⟨nd, rfl⟩ := emptyDict_obj hdo
    (k_steps; repeat' ((refine Hold.mk ?_; first | ((with_reducible show wpAny _ _ (call (Value.ref 441) [_]) _ _ _); (refine' part_ok ?B ?F ?X ?T ?hk ?N ?U1 ?U2 ?hp ?hpq  ?hd ?hu ?_; (case B => k_asm); (case F => k_asm); (case X => k_asm); (case T => k_asm); (case hk => first | exact rfl | assumption); (case N => k_asm); (case U1 => k_updF); (case hp => assumption); (case hpq => assumption); (case U2 => (intro zo8; (try dsimp only); k_updF)); (case hd => ktr_room); (case hu => ktr_units)); intro zv9 zR9 zpp9 zh9 ztk9 zop9 zoq9 zF9 zN9 zhp9 zhb9 zhf9 zhr9; (try dsimp only at zN9); refine Hold.out ?_) | ((with_reducible show wpAny _ _ (call (Value.ref 434) [_, _]) _ _ _); (refine' pick_ok ?B ?F ?X ?T ?hk ?N ?U1 ?U2 ?hp ?hpq ?hl ?hlp ?hne ?hle ?hd ?hu ?_; (case B => k_asm); (case F => k_asm); (case X => k_asm); (case T => k_asm); (case hk => first | exact rfl | assumption); (case N => k_asm); (case U1 => k_updF); (case hp => assumption); (case hpq => assumption); (case U2 => (intro zo8; (try dsimp only); k_updF)); (case hl => exact (news_here (by assumption) (by k_mem))); (case hlp => exact off2 (by k_ne) (by k_ne)); (case hne => exact Nat.le_of_ble_eq_true rfl); (case hle => exact Nat.le_of_ble_eq_true rfl); (case hd => ktr_room); (case hu => ktr_units)); intro zv9 zh9 ztk9 zop9 zoq9 zF9 zN9 zhp9 zhb9 zhm9; (try dsimp only at zN9); refine Hold.out ?_) | ((with_reducible show wpAny _ _ (call (Value.ref 427) [_, _]) _ _ _); (refine' draw_pen ?B ?F ?X ?T ?hk ?N ?U1 ?U2 ?hp ?hpq ?hm ?hd ?hu ?_; (case B => k_asm); (case F => k_asm); (case X => k_asm); (case T => k_asm); (case hk => first | exact rfl | assumption); (case N => k_asm); (case U1 => k_updF); (case hp => assumption); (case hpq => assumption); (case U2 => (intro zo8; (try dsimp only); k_updF)); (case hm => first | decide | omega); (case hd => ktr_room); (case hu => ktr_units)); intro zr9 zt9 zh9 ztk9 zop9 zoq9 zF9 zN9 zhp9 zhb9 zh09 zh19; (try dsimp only at zN9))); k_steps))
    rename News g1 _ _ _ => Nz
    rename Fr g1 _ _ _ => Fz
    rename News h₀ _ _ (_ :: _) => Ny
    rename IsPen q _ _ => hpz
    have hbut := But.ofFr hB1 Fz
    have hnews := pen_news N U1 U2 hbut (news2 Ny (by k_mem) (by k_mem))
    simp only [List.mem_cons, List.not_mem_nil, or_false] at hm9
    rcases hm9 with rfl | rfl | rfl | rfl | rfl
    · exact ret _ [] (.p .none) _ _ _ _ (by assumption) hnews hpz hbut (fun _ q => nomatch q) (fun _ _ => rfl)
    · exact ret _ [] (.p (.int _)) _ _ _ _ (by assumption) hnews hpz hbut (fun _ q => nomatch q) (fun _ _ => ⟨_, rfl⟩)
    · have hf := fresh_inst (C := 261) Nz hB1 (by k_mem) (by k_mem) (by k_ne) (by k_ne) (by k_ne) (by k_ne)
      exact ret _ _ (.p (.ref _)) _ _ _ _ (by assumption) hnews hpz hbut hf (fun h hR => ⟨_, _, _, _, _, _, rfl, hR _ List.mem_cons_self, hR _ (List.mem_cons_of_mem _ List.mem_cons_self), rfl, rfl⟩)
    · have hf := fresh_one (od := dictOf [] nd) Nz hB1 (by k_mem) (by k_ne) (by k_ne)
      exact ret _ _ .emp _ _ _ _ (by assumption) hnews hpz hbut hf (fun h hR => ⟨_, _, rfl, hR _ List.mem_cons_self⟩)
    · have hf := fresh_inst (C := 190) Nz hB1 (by k_mem) (by k_mem) (by k_ne) (by k_ne) (by k_ne) (by k_ne)
      exact ret _ _ (.p (.name _)) _ _ _ _ (by assumption) hnews hpz hbut hf (fun h hR => ⟨_, _, _, _, _, rfl, hR _ List.mem_cons_self, hR _ (List.mem_cons_of_mem _ List.mem_cons_self), rfl⟩)
  · unfold Hold
    rename IsRange _ _ _ _ _ _ _ _ => rgX
    rename Fr g1 _ _ _ => Fz
    rename News g1 _ _ _ => Nz
    rename IsPen q _ _ => hpz
    refine LCg.CompSrc.range (n := many.toNat) (by rfl) Fz Nz rgX (small_ok hm0 hm1) (by rw [rangeSize_nat]; congr 1; omega) (by rw [sizeLine_eq]; omega) fun g' => ?_
    refine comp_allN (fun i ys news => Hold (∃ op oq ps, news = [(L1 + 1, _), (p, op), (q, oq)] ∧ IsPen q op oq ∧ (∀ h, IsPs h ys ps) ∧ ps.length = i)) ?_ ⟨_, _, [], rfl, hpz, fun _ => trivial, rfl⟩ ?_
    · intro i v ys news I oI C oC D m₂ h tk E' hi hv hinv hC hx F2 N2 off ne
      obtain ⟨op2, oq2, ps, rfl, hp2, hps, hpl⟩ := hinv
      simp only [Off3, and_true] at off
      (k_steps; repeat' ((refine Hold.mk ?_; first | ((with_reducible show wpAny _ _ (call (Value.ref 441) [_]) _ _ _); (refine' part_ok ?B ?F ?X ?T ?hk ?N ?U1 ?U2 ?hp ?hpq  ?hd ?hu ?_; (case B => k_asm); (case F => k_asm); (case X => k_asm); (case T => k_asm); (case hk => first | exact rfl | assumption); (case N => k_asm); (case U1 => k_updF); (case hp => assumption); (case hpq => assumption); (case U2 => (intro zo8; (try dsimp only); k_updF)); (case hd => ktr_room); (case hu => ktr_units)); intro zv9 zR9 zpp9 zh9 ztk9 zop9 zoq9 zF9 zN9 zhp9 zhb9 zhf9 zhr9; (try dsimp only at zN9); refine Hold.out ?_) | ((with_reducible show wpAny _ _ (call (Value.ref 434) [_, _]) _ _ _); (refine' pick_ok ?B ?F ?X ?T ?hk ?N ?U1 ?U2 ?hp ?hpq ?hl ?hlp ?hne ?hle ?hd ?hu ?_; (case B => k_asm); (case F => k_asm); (case X => k_asm); (case T => k_asm); (case hk => first | exact rfl | assumption); (case N => k_asm); (case U1 => k_updF); (case hp => assumption); (case hpq => assumption); (case U2 => (intro zo8; (try dsimp only); k_updF)); (case hl => exact (news_here (by assumption) (by k_mem))); (case hlp => exact off2 (by k_ne) (by k_ne)); (case hne => exact Nat.le_of_ble_eq_true rfl); (case hle => exact Nat.le_of_ble_eq_true rfl); (case hd => ktr_room); (case hu => ktr_units)); intro zv9 zh9 ztk9 zop9 zoq9 zF9 zN9 zhp9 zhb9 zhm9; (try dsimp only at zN9); refine Hold.out ?_) | ((with_reducible show wpAny _ _ (call (Value.ref 427) [_, _]) _ _ _); (refine' draw_pen ?B ?F ?X ?T ?hk ?N ?U1 ?U2 ?hp ?hpq ?hm ?hd ?hu ?_; (case B => k_asm); (case F => k_asm); (case X => k_asm); (case T => k_asm); (case hk => first | exact rfl | assumption); (case N => k_asm); (case U1 => k_updF); (case hp => assumption); (case hpq => assumption); (case U2 => (intro zo8; (try dsimp only); k_updF)); (case hm => first | decide | omega); (case hd => ktr_room); (case hu => ktr_units)); intro zr9 zt9 zh9 ztk9 zop9 zoq9 zF9 zN9 zhp9 zhb9 zh09 zh19; (try dsimp only at zN9))); k_steps))
      unfold Hold
      exact ⟨_, _, ps ++ [.int _], rfl, by assumption, fun h => IsPs.snoc (p := .int _) (show IsP h _ (.int _) from ⟨_, rfl⟩) (hps h), by simp [hpl]⟩
    · intro ys news hinv
      obtain ⟨op2, oq2, ps, rfl, hp2, hps, hpl⟩ := hinv
      (k_steps; repeat' ((refine Hold.mk ?_; first | ((with_reducible show wpAny _ _ (call (Value.ref 441) [_]) _ _ _); (refine' part_ok ?B ?F ?X ?T ?hk ?N ?U1 ?U2 ?hp ?hpq  ?hd ?hu ?_; (case B => k_asm); (case F => k_asm); (case X => k_asm); (case T => k_asm); (case hk => first | exact rfl | assumption); (case N => k_asm); (case U1 => k_updF); (case hp => assumption); (case hpq => assumption); (case U2 => (intro zo8; (try dsimp only); k_updF)); (case hd => ktr_room); (case hu => ktr_units)); intro zv9 zR9 zpp9 zh9 ztk9 zop9 zoq9 zF9 zN9 zhp9 zhb9 zhf9 zhr9; (try dsimp only at zN9); refine Hold.out ?_) | ((with_reducible show wpAny _ _ (call (Value.ref 434) [_, _]) _ _ _); (refine' pick_ok ?B ?F ?X ?T ?hk ?N ?U1 ?U2 ?hp ?hpq ?hl ?hlp ?hne ?hle ?hd ?hu ?_; (case B => k_asm); (case F => k_asm); (case X => k_asm); (case T => k_asm); (case hk => first | exact rfl | assumption); (case N => k_asm); (case U1 => k_updF); (case hp => assumption); (case hpq => assumption); (case U2 => (intro zo8; (try dsimp only); k_updF)); (case hl => exact (news_here (by assumption) (by k_mem))); (case hlp => exact off2 (by k_ne) (by k_ne)); (case hne => exact Nat.le_of_ble_eq_true rfl); (case hle => exact Nat.le_of_ble_eq_true rfl); (case hd => ktr_room); (case hu => ktr_units)); intro zv9 zh9 ztk9 zop9 zoq9 zF9 zN9 zhp9 zhb9 zhm9; (try dsimp only at zN9); refine Hold.out ?_) | ((with_reducible show wpAny _ _ (call (Value.ref 427) [_, _]) _ _ _); (refine' draw_pen ?B ?F ?X ?T ?hk ?N ?U1 ?U2 ?hp ?hpq ?hm ?hd ?hu ?_; (case B => k_asm); (case F => k_asm); (case X => k_asm); (case T => k_asm); (case hk => first | exact rfl | assumption); (case N => k_asm); (case U1 => k_updF); (case hp => assumption); (case hpq => assumption); (case U2 => (intro zo8; (try dsimp only); k_updF)); (case hm => first | decide | omega); (case hd => ktr_room); (case hu => ktr_units)); intro zr9 zt9 zh9 ztk9 zop9 zoq9 zF9 zN9 zhp9 zhb9 zh09 zh19; (try dsimp only at zN9))); k_steps))
      rename News g1 _ _ _ => Ny1
      rename Fr g1 _ _ _ => Fy1
      rename News h₀ _ _ (_ :: _) => Ny
      have hbut := But.ofFr hB1 Fy1
      have hnews := pen_news N U1 U2 hbut (news2 Ny (by k_mem) (by k_mem))
      have hf := fresh_one (od := lst ys) Ny1 hB1 (by k_mem) (by k_ne) (by k_ne)
      exact ret _ _ (.list ps) _ _ _ _ (by assumption) hnews hp2 hbut hf (fun h hR => ⟨_, ys, _, rfl, hR _ List.mem_cons_self, hps h, by omega⟩)
  · unfold Hold
    rename IsRange _ _ _ _ _ _ _ _ => rgX
    rename Fr g1 _ _ _ => Fz
    rename News g1 _ _ _ => Nz
    rename IsPen q _ _ => hpz
    rename 0 ≤ _ => hr0
    rename _ < (5 : Int) => hr1
    refine LCg.CompSrc.range (n := (Int.toNat _)) (by rfl) Fz Nz rgX (small_ok hr0 (by omega)) (by rw [rangeSize_nat]) (by rw [sizeLine_eq]; omega) fun g' => ?_
    refine comp_allN (fun i ys news => Hold (∃ op oq R ps, news = (L1 + 1, _) :: (p, op) :: (q, oq) :: R ∧ IsPen q op oq ∧ HasPs R ys ps ∧ ps.length = i ∧ (∀ x ∈ R, x.1 ≠ p) ∧ (∀ x ∈ R, x.1 ≠ q) ∧ (∀ x ∈ R, s.heap.get? x.1 = none))) ?_ ⟨_, _, [], [], rfl, hpz, (show HasPs [] [] [] from fun _ _ => trivial), rfl, List.forall_mem_nil _, List.forall_mem_nil _, List.forall_mem_nil _⟩ ?_
    · intro i v ys news I oI C oC D m₂ h tk E' hi hv hinv hC hx F2 N2 off ne
      obtain ⟨op2, oq2, R, ps, rfl, hp2, hps, hpl, hRp, hRq, hRs⟩ := hinv
      have off0 := off
      simp only [Off3] at off
      (k_steps; repeat' ((refine Hold.mk ?_; first | ((with_reducible show wpAny _ _ (call (Value.ref 441) [_]) _ _ _); (refine' part_ok ?B ?F ?X ?T ?hk ?N ?U1 ?U2 ?hp ?hpq  ?hd ?hu ?_; (case B => k_asm); (case F => k_asm); (case X => k_asm); (case T => k_asm); (case hk => first | exact rfl | assumption); (case N => k_asm); (case U1 => k_updF); (case hp => assumption); (case hpq => assumption); (case U2 => (intro zo8; (try dsimp only); k_updF)); (case hd => ktr_room); (case hu => ktr_units)); intro zv9 zR9 zpp9 zh9 ztk9 zop9 zoq9 zF9 zN9 zhp9 zhb9 zhf9 zhr9; (try dsimp only at zN9); refine Hold.out ?_) | ((with_reducible show wpAny _ _ (call (Value.ref 434) [_, _]) _ _ _); (refine' pick_ok ?B ?F ?X ?T ?hk ?N ?U1 ?U2 ?hp ?hpq ?hl ?hlp ?hne ?hle ?hd ?hu ?_; (case B => k_asm); (case F => k_asm); (case X => k_asm); (case T => k_asm); (case hk => first | exact rfl | assumption); (case N => k_asm); (case U1 => k_updF); (case hp => assumption); (case hpq => assumption); (case U2 => (intro zo8; (try dsimp only); k_updF)); (case hl => exact (news_here (by assumption) (by k_mem))); (case hlp => exact off2 (by k_ne) (by k_ne)); (case hne => exact Nat.le_of_ble_eq_true rfl); (case hle => exact Nat.le_of_ble_eq_true rfl); (case hd => ktr_room); (case hu => ktr_units)); intro zv9 zh9 ztk9 zop9 zoq9 zF9 zN9 zhp9 zhb9 zhm9; (try dsimp only at zN9); refine Hold.out ?_) | ((with_reducible show wpAny _ _ (call (Value.ref 427) [_, _]) _ _ _); (refine' draw_pen ?B ?F ?X ?T ?hk ?N ?U1 ?U2 ?hp ?hpq ?hm ?hd ?hu ?_; (case B => k_asm); (case F => k_asm); (case X => k_asm); (case T => k_asm); (case hk => first | exact rfl | assumption); (case N => k_asm); (case U1 => k_updF); (case hp => assumption); (case hpq => assumption); (case U2 => (intro zo8; (try dsimp only); k_updF)); (case hm => first | decide | omega); (case hd => ktr_room); (case hu => ktr_units)); intro zr9 zt9 zh9 ztk9 zop9 zoq9 zF9 zN9 zhp9 zhb9 zh09 zh19; (try dsimp only at zN9))); k_steps))
      unfold Hold
      rename Fr g1 _ _ _ => F9
      rename News g1 _ _ _ => N9
      rename ∀ x ∈ _, _ ∧ _ => hf9
      rename Has _ _ (.p _) => hr9
      have hI := (N2 _ List.mem_cons_self).1
      have hCC := (N2 _ (List.mem_cons_of_mem _ List.mem_cons_self)).1
      have hDD := (N2 _ (List.mem_cons_of_mem _ (List.mem_cons_of_mem _ List.mem_cons_self))).1
      have hpp := (N2 (p, _) (List.mem_cons_of_mem _ (List.mem_cons_of_mem _ (List.mem_cons_of_mem _ (List.mem_cons_of_mem _ List.mem_cons_self))))).1
      have hqq := (N2 (q, _) (List.mem_cons_of_mem _ (List.mem_cons_of_mem _ (List.mem_cons_of_mem _ (List.mem_cons_of_mem _ (List.mem_cons_of_mem _ List.mem_cons_self)))))).1
      have N10 := news_add N9 F2 hf9
      refine LCg.CompEnd.intro F9 N10 ((L1 + 1, _) :: (p, _) :: (q, _) :: (R ++ _)) (fun x hx => by simpa using hx) ?_ trivial ?_
      · refine Off3.of fun x hx => ?_
        have hx' := hx
        simp only [List.mem_cons, List.mem_append] at hx
        rcases hx with rfl | rfl | rfl | hx | hx
        · exact off.1
        · exact off.2.1
        · exact off.2.2.1
        · exact Off3.mem off.2.2.2 x hx
        · have := (hf9 x hx).2
          exact ⟨fresh_ne hI this, fresh_ne hCC this, fresh_ne hDD this⟩
      · refine ⟨_, _, R ++ _, ps ++ [_], rfl, by assumption, hps.snoc hr9, by simp [hpl], ?_, ?_, ?_⟩
        · exact List.forall_mem_append.mpr ⟨hRp, fun x hx => fresh_ne hpp (hf9 x hx).2⟩
        · exact List.forall_mem_append.mpr ⟨hRq, fun x hx => fresh_ne hqq (hf9 x hx).2⟩
        · refine List.forall_mem_append.mpr ⟨hRs, fun x hx => ?_⟩
          have hq1 : g1.get? x.1 = none := by
            cases e : g1.get? x.1 with
            | none => rfl
            | some o => have := F2.keep _ _ e; rw [(hf9 x hx).2] at this; cases this
          exact fresh1 hB1 hq1 (fresh_ne hpp (hf9 x hx).2) (fresh_ne hqq (hf9 x hx).2)
    · intro ys news hinv
      obtain ⟨op2, oq2, R, ps, rfl, hp2, hps, hpl, hRp, hRq, hRs⟩ := hinv
      (k_steps; repeat' ((refine Hold.mk ?_; first | ((with_reducible show wpAny _ _ (call (Value.ref 441) [_]) _ _ _); (refine' part_ok ?B ?F ?X ?T ?hk ?N ?U1 ?U2 ?hp ?hpq  ?hd ?hu ?_; (case B => k_asm); (case F => k_asm); (case X => k_asm); (case T => k_asm); (case hk => first | exact rfl | assumption); (case N => k_asm); (case U1 => k_updF); (case hp => assumption); (case hpq => assumption); (case U2 => (intro zo8; (try dsimp only); k_updF)); (case hd => ktr_room); (case hu => ktr_units)); intro zv9 zR9 zpp9 zh9 ztk9 zop9 zoq9 zF9 zN9 zhp9 zhb9 zhf9 zhr9; (try dsimp only at zN9); refine Hold.out ?_) | ((with_reducible show wpAny _ _ (call (Value.ref 434) [_, _]) _ _ _); (refine' pick_ok ?B ?F ?X ?T ?hk ?N ?U1 ?U2 ?hp ?hpq ?hl ?hlp ?hne ?hle ?hd ?hu ?_; (case B => k_asm); (case F => k_asm); (case X => k_asm); (case T => k_asm); (case hk => first | exact rfl | assumption); (case N => k_asm); (case U1 => k_updF); (case hp => assumption); (case hpq => assumption); (case U2 => (intro zo8; (try dsimp only); k_updF)); (case hl => exact (news_here (by assumption) (by k_mem))); (case hlp => exact off2 (by k_ne) (by k_ne)); (case hne => exact Nat.le_of_ble_eq_true rfl); (case hle => exact Nat.le_of_ble_eq_true rfl); (case hd => ktr_room); (case hu => ktr_units)); intro zv9 zh9 ztk9 zop9 zoq9 zF9 zN9 zhp9 zhb9 zhm9; (try dsimp only at zN9); refine Hold.out ?_) | ((with_reducible show wpAny _ _ (call (Value.ref 427) [_, _]) _ _ _); (refine' draw_pen ?B ?F ?X ?T ?hk ?N ?U1 ?U2 ?hp ?hpq ?hm ?hd ?hu ?_; (case B => k_asm); (case F => k_asm); (case X => k_asm); (case T => k_asm); (case hk => first | exact rfl | assumption); (case N => k_asm); (case U1 => k_updF); (case hp => assumption); (case hpq => assumption); (case U2 => (intro zo8; (try dsimp only); k_updF)); (case hm => first | decide | omega); (case hd => ktr_room); (case hu => ktr_units)); intro zr9 zt9 zh9 ztk9 zop9 zoq9 zF9 zN9 zhp9 zhb9 zh09 zh19; (try dsimp only at zN9))); k_steps))
      rename News g1 _ _ _ => Ny1
      rename Fr g1 _ _ _ => Fy1
      rename News h₀ _ _ (_ :: _) => Ny
      have hbut := But.ofFr hB1 Fy1
      have hnews := pen_news N U1 U2 hbut (news2 Ny (by k_mem) (by k_mem))
      have hf := fresh_one (od := lst ys) Ny1 hB1 (by k_mem) (by k_ne) (by k_ne)
      refine ret _ ([_] ++ R) (.list ps) _ _ _ _ (by assumption) hnews hp2 hbut (List.forall_mem_append.mpr ⟨hf, fun x hx => ⟨(Ny1 x ?_).1, hRs x hx⟩⟩) (fun h hR => ⟨_, ys, _, rfl, hR _ List.mem_cons_self, hps h (fun x hx => hR x (List.mem_append_right _ hx)), by omega⟩)
      simp [hx]
end

set_option maxRecDepth 100000
set_option maxHeartbeats 8000000

section
variable {prog : Program} {w : World} {A : Around} {E : Value → Shared → Prop} {s : Shared} {env : Env} {h₀ : Heap} {x : Str} {body : List Stmt} {Q : Flow → Shared → Prop}
noncomputable def GrowEnd (h₀ : Heap) (L : Addr) (J : (Str → Option Value) → List (Addr × Obj) → Prop) (own : List (Addr × Obj)) (I : Addr) (s₁ s₂ : Shared) : Prop :=
  ∃ h' tk m' nx, s₂ = { s₁ with heap := h', toks := tk } ∧ Fr h₀ L h' m' ∧ News h₀ L h' (own ++ nx) ∧ (∀ p ∈ nx, p.1 ≠ I) ∧ J m' nx
noncomputable def GrowPost (h₀ : Heap) (L : Addr) (J : (Str → Option Value) → List (Addr × Obj) → Prop) (own : List (Addr × Obj)) (I : Addr) (s₁ : Shared) (Q : Flow → Shared → Prop) (f : Flow) (s₂ : Shared) : Prop :=
  match f with
  | .ret v => Q (.ret v) s₂
  | .brk => Q .next s₂
  | _ => Hold (GrowEnd h₀ L J own I s₁ s₂)
local macro_rules | `(tactic| walk_at "nothing at all") => `(tactic| fail)
local macro_rules | `(tactic| walk_at "nothing at all") => `(tactic| fail)
theorem loop_grow {I : Addr} {fp : List Addr} {n : Nat} {P : Nat → Value → Prop} {St : Nat → Heap → Prop} {m₀ : Str → Option Value} {news : List (Addr × Obj)} (J : Nat → (Str → Option Value) → List (Addr × Obj) → Prop)
    (W : Walks prog w A I fp [I] n P St) (hal : ∀ i h, St i h → ∃ o, h.get? I = some o) (hLf : env.locals ∉ fp) (hI : h₀.get? I = none) (hnw : ∀ p ∈ news, p.1 ≠ I) (hst : St 0 s.heap) (F : Fr h₀ env.locals s.heap m₀) (N : News h₀ env.locals s.heap news) (hj : J 0 m₀ news)
    (turn : ∀ i v m₁ nx h tk own, i < n → P i v → J i m₁ nx → (∀ p ∈ nx, p.1 ≠ I) → (∀ p ∈ own, p.1 ∈ fp) → (∃ o, (I, o) ∈ own) → Fr h₀ env.locals h (fun y => if y = x then some v else m₁ y) → News h₀ env.locals h (nx ++ own) →
      wpAny (model prog w) A (execs body env) (GrowPost h₀ env.locals (J (i + 1)) own I { s with heap := h, toks := tk } Q) E { s with heap := h, toks := tk })
    (done : ∀ m₁ nx h tk, J n m₁ nx → Fr h₀ env.locals h m₁ → News h₀ env.locals h nx → Q .next { s with heap := h, toks := tk }) :
    LoopAtV prog w A h₀ env x body Q E (.ref I) s := by
  have hone : ∀ {l : List (Addr × Obj)}, (∀ p ∈ l, p.1 ≠ I) → ∀ p ∈ l, p.1 ∉ [I] := fun h p hp q => h p hp (List.mem_singleton.mp q)
  refine ⟨I, fp, [I], n, P, St, m₀, news, J, rfl, W, hLf, (fun b hb => by rw [List.mem_singleton.mp hb]; exact hI), hone hnw, hst, F, N, hj, ?_, ?_⟩
  · rintro i v m₁ news₁ s₁ own ⟨hh', tk', rfl⟩ hin hP hJ hoff hown _ hall hst₁ F₁ N₁
    have N₂ : News h₀ env.locals hh' (news₁ ++ own) := fun p hp => N₁ p ((List.mem_append.mp hp).elim (fun h => List.mem_append.mpr (.inr h)) fun h => List.mem_append.mpr (.inl h))
    refine wpAny_mono (turn i v m₁ news₁ hh' tk' own hin hP hJ (fun p hp e => hoff p hp (by rw [e]; simp)) hown (by obtain ⟨o, e⟩ := hal _ _ hst₁; exact ⟨o, hall I (W.sub I (by simp)) hI o e⟩) F₁ N₂) (fun f s₂ p => ?_) fun _ _ e => e
    have fin : GrowEnd h₀ env.locals (J (i + 1)) own I { s with heap := hh', toks := tk' } s₂ → LoopStepU h₀ env.locals [I] own (J (i + 1)) { s with heap := hh', toks := tk' } .next s₂ := by
      rintro ⟨h', tk, m', nx, e, F', N', hnx, hm⟩
      exact ⟨rfl, h', tk, m', nx, e, F', N', hone hnx, hm⟩
    cases f with
    | ret v => exact .ret p
    | brk => exact .brk p
    | next => exact .next (fin p)
    | cont => exact .cont (fin p)
  · rintro h' tk m' news' F' N' _ hJ
    exact done m' news' h' tk hJ F' N'
noncomputable def GrowS {σ : Type} (Led : σ → List (Addr × Obj)) (ps : σ → List (Str × Value)) (x : Str) (stored : List Str) (m₀ : Str → Option Value) (P : σ → Prop) (m : Str → Option Value) (nx : List (Addr × Obj)) : Prop :=
  ∃ c : σ, nx = Led c ∧ (∀ p ∈ ps c, m p.1 = some p.2) ∧ (∀ z, z ≠ x → (∀ p ∈ ps c, z ≠ p.1) → stored.contains z = false → m z = m₀ z) ∧ P c
theorem grow_end {σ : Type} {Led : σ → List (Addr × Obj)} {ps : σ → List (Str × Value)} {stored : List Str} {m₀ : Str → Option Value} {P : σ → Prop} (c : σ) {L I : Addr} {m' : Str → Option Value} {own news' : List (Addr × Obj)} {s₁ : Shared} {h' : Heap} {tk : Nat}
    (F : Fr h₀ L h' m') (N : News h₀ L h' news') (hn : ∀ p ∈ Led c, p ∈ news') (ho : ∀ p ∈ own, p ∈ news') (hI : ∀ p ∈ Led c, p.1 ≠ I) (hk : ∀ p ∈ ps c, m' p.1 = some p.2) (hr : ∀ z, z ≠ x → (∀ p ∈ ps c, z ≠ p.1) → stored.contains z = false → m' z = m₀ z) (hp : P c) :
    GrowEnd h₀ L (GrowS Led ps x stored m₀ P) own I s₁ { s₁ with heap := h', toks := tk } :=
  ⟨h', tk, m', Led c, rfl, F, fun p hp => (List.mem_append.mp hp).elim (fun q => N p (ho p q)) fun q => N p (hn p q), hI, c, rfl, hk, hr, hp⟩
theorem grow_rangeI {r : Addr} {a₀ b₀ : Int} {t₀ u₀ v₀ : Tok} {n : Nat} {m₀ : Str → Option Value} {news : List (Addr × Obj)} (J : Nat → (Str → Option Value) → List (Addr × Obj) → Prop) (free : A.handled = none)
    (hr : IsRange s.heap r a₀ b₀ 1 t₀ u₀ v₀) (small : Builtin.Range.small a₀ b₀ 1 = true) (size : Builtin.Range.rangeSize a₀ b₀ 1 = (n : Int)) (F : Fr h₀ env.locals s.heap m₀) (N : News h₀ env.locals s.heap news) (start : J 0 m₀ news)
    (turn : ∀ (i : Nat) (k : Int) t (m₁ : Str → Option Value) nx (I : Addr) h tk own, i < n → k = a₀ + (i : Int) → J i m₁ nx → (∀ p ∈ nx, p.1 ≠ I) → (∀ p ∈ own, p.1 = I) → (∃ o, (I, o) ∈ own) → Fr h₀ env.locals h (fun y => if y = x then some (.int k t) else m₁ y) →
      News h₀ env.locals h (nx ++ own) → wpAny (model prog w) A (execs body env) (GrowPost h₀ env.locals (J (i + 1)) own I { s with heap := h, toks := tk } Q) E { s with heap := h, toks := tk })
    (done : ∀ m₁ nx h tk, J n m₁ nx → Fr h₀ env.locals h m₁ → News h₀ env.locals h nx → Q .next { s with heap := h, toks := tk }) :
    wpAny (model prog w) A (pyIter (.ref r)) (fun it s₂ => LoopAtV prog w A h₀ env x body Q E it s₂) E s := by
  have W := (Walks.range (prog := prog) (w := w) free s.heap.objs.size a₀ 1 n).bound
  refine wpAny_pyIter_range hr small (loop_grow J W (fun _ _ st => ⟨_, st⟩) (fun q => ?_) (next_is_new F) (fun p hp q => ?_) ?_ (F.push _) (fun p hp => ⟨Heap.get?_push_of_some _ (N p hp).1, (N p hp).2⟩) start ?_ done)
  · exact Nat.ne_of_lt F.ns.lt (List.mem_singleton.mp q)
  · exact Nat.ne_of_lt (Heap.lt_size (N p hp).1) q
  · show IsRangeIter _ _ _ _ _
    rw [size]
    simpa using Heap.get?_push_size _ rfl
  · rintro i v m₁ nx h tk own hi ⟨_, t, rfl⟩ hJ off mine has F₁ N₁
    refine turn i _ t m₁ nx _ h tk own hi ?_ hJ off (fun p hp => List.mem_singleton.mp (mine p hp)) has F₁ N₁
    rw [Int.mul_one]
theorem grow_range {σ : Type} {r : Addr} {a₀ b₀ : Int} {t₀ u₀ v₀ : Tok} {n : Nat} {m₀ : Str → Option Value} (Led : σ → List (Addr × Obj)) (ps : σ → List (Str × Value)) (stored : List Str) (P : Nat → σ → Prop) (c₀ : σ)
    (hh : A.handled = none) (hr : IsRange s.heap r a₀ b₀ 1 t₀ u₀ v₀) (hsmall : Builtin.Range.small a₀ b₀ 1 = true) (hn : Builtin.Range.rangeSize a₀ b₀ 1 = (n : Int)) (F : Fr h₀ env.locals s.heap m₀) (N : News h₀ env.locals s.heap (Led c₀)) (hk : ∀ p ∈ ps c₀, m₀ p.1 = some p.2) (hp : P 0 c₀)
    (turn : ∀ (c : σ) (i : Nat) (k : Int) t (u : Str → Option Value) (I : Addr) h tk own, k = a₀ + (i : Int) → i < n → (∀ p ∈ Led c, p.1 ≠ I) → (∀ p ∈ own, p.1 = I) → (∃ o, (I, o) ∈ own) → P i c →
      Fr h₀ env.locals h (fun y => if y = x then some (.int k t) else kstB (fun z => if stored.contains z then u z else m₀ z) (ps c) y) → News h₀ env.locals h (Led c ++ own) →
      wpAny (model prog w) A (execs body env) (GrowPost h₀ env.locals (GrowS Led ps x stored m₀ (P (i + 1))) own I { s with heap := h, toks := tk } Q) E { s with heap := h, toks := tk })
    (done : ∀ (c : σ) (u : Str → Option Value) h tk, P n c → Fr h₀ env.locals h (fun y => if y = x then u y else kstB (fun z => if stored.contains z then u z else m₀ z) (ps c) y) → News h₀ env.locals h (Led c) → Q .next { s with heap := h, toks := tk }) :
    wpAny (model prog w) A (pyIter (.ref r)) (fun it s₂ => LoopAtV prog w A h₀ env x body Q E it s₂) E s := by
  refine grow_rangeI (fun i => GrowS Led ps x stored m₀ (P i)) hh hr hsmall hn F N ⟨c₀, rfl, hk, fun _ _ _ _ => rfl, hp⟩ ?_ ?_
  · rintro i k t m₁ nx I h tk own hi hik ⟨c, rfl, names, rest, hc⟩ off mine has F₁ N₁
    exact turn c i k t m₁ I h tk own hik hi off mine has hc (kst_fr names rest F₁) N₁
  · rintro m₁ nx h tk ⟨c, rfl, names, rest, hc⟩ F₁ N₁
    exact done c m₁ h tk hc (kst_frOut names rest F₁) N₁
theorem grow_list {σ : Type} {l : Addr} {vs : List Value} {k : Nat} {m₀ : Str → Option Value} (Led : σ → List (Addr × Obj)) (ps : σ → List (Str × Value)) (stored : List Str) (P : Nat → σ → Prop) (c₀ : σ)
    (hh : A.handled = none) (hl : s.heap.get? l = some (listOf vs.toArray k)) (hlL : env.locals ≠ l) (F : Fr h₀ env.locals s.heap m₀) (N : News h₀ env.locals s.heap (Led c₀)) (hk : ∀ p ∈ ps c₀, m₀ p.1 = some p.2) (hp : P 0 c₀)
    (turn : ∀ (c : σ) (i : Nat) v (u : Str → Option Value) (I : Addr) h tk own, vs[i]? = some v → (∀ p ∈ Led c, p.1 ≠ I) → (∀ p ∈ own, p.1 = I ∨ p.1 = l) → (∃ o, (I, o) ∈ own) → P i c →
      Fr h₀ env.locals h (fun y => if y = x then some v else kstB (fun z => if stored.contains z then u z else m₀ z) (ps c) y) → News h₀ env.locals h (Led c ++ own) →
      wpAny (model prog w) A (execs body env) (GrowPost h₀ env.locals (GrowS Led ps x stored m₀ (P (i + 1))) own I { s with heap := h, toks := tk } Q) E { s with heap := h, toks := tk })
    (done : ∀ (c : σ) (u : Str → Option Value) h tk, P vs.length c → Fr h₀ env.locals h (fun y => if y = x then u y else kstB (fun z => if stored.contains z then u z else m₀ z) (ps c) y) → News h₀ env.locals h (Led c) → Q .next { s with heap := h, toks := tk }) :
    wpAny (model prog w) A (pyIter (.ref l)) (fun it s₂ => LoopAtV prog w A h₀ env x body Q E it s₂) E s := by
  have hls : s.heap.IsList l vs.toArray := ⟨_, hl, rfl, _, rfl⟩
  have hlt : l < s.heap.objs.size := Heap.lt_size hl
  refine wpAny_pyIter_list hls ?_
  have W := Walks.list (prog := prog) (w := w) hh s.heap.objs.size l (Nat.ne_of_lt hlt) vs.toArray
  have hlen : vs.toArray.size = vs.length := by simp
  rw [hlen] at W
  refine loop_grow (fun i m nx => GrowS Led ps x stored m₀ (P i) m nx) W (fun i h st => by obtain ⟨o, e, _⟩ := st.1; exact ⟨o, e⟩) ?_ (next_is_new F) ?_ ⟨⟨_, Heap.get?_push_size _ rfl, rfl, rfl⟩, hls.at fun o e => Heap.get?_push_of_some _ e⟩ (F.push _) (fun p hp => ⟨Heap.get?_push_of_some _ (N p hp).1, (N p hp).2⟩) ⟨c₀, rfl, hk, fun _ _ _ _ => rfl, hp⟩ ?_ ?_
  · intro hm
    rcases List.mem_cons.mp hm with e | hm
    · exact absurd F.ns.lt (e ▸ Nat.lt_irrefl _)
    · exact hlL (List.mem_singleton.mp hm)
  · intro p hp hI
    exact absurd (Heap.lt_size (N p hp).1) (hI ▸ Nat.lt_irrefl _)
  · rintro i v m₁ nx h tk own hi hv ⟨c, rfl, h1, h2, hp'⟩ hnI hown hal F₁ N₁
    exact turn c i v m₁ _ h tk own (by simpa using hv) hnI (fun p hp => by simpa using hown p hp) hal hp' (kst_fr h1 h2 F₁) N₁
  · rintro m₁ nx h tk ⟨c, rfl, h1, h2, hp'⟩ F₁ N₁
    exact done c m₁ h tk hp' (kst_frOut h1 h2 F₁) N₁
end

set_option maxRecDepth 100000
set_option maxHeartbeats 8000000

noncomputable def HasKV {K : Type} (R : List (Addr × Obj)) (kvs : List (K × Value)) (T : List (K × D)) : Prop := ∀ h : Heap, (∀ x ∈ R, h.get? x.1 = some x.2) → KV (IsD h) kvs T
noncomputable def ks (n : Nat) : List Int := (List.range n).map fun (i : Nat) => 1 + (i : Int)
theorem small_from {a b : Int} (ha : 0 ≤ a) (h0 : a ≤ b) (h1 : b ≤ 60) : Builtin.Range.small a b 1 = true := by
  have e := rangeSize_nat a b
  unfold Builtin.Range.small
  simp only [e]
  have hf : ∀ i : Int, 0 ≤ i → i ≤ 61 → Builtin.Range.rangeFitsLong i = true := fun i a b => by
    unfold Builtin.Range.rangeFitsLong
    simp only [Bool.and_eq_true, decide_eq_true_eq]
    omega
  rw [hf a (by omega) (by omega), hf b (by omega) (by omega), hf 1 (by omega) (by omega), hf _ (by omega) (by omega), hf (b + (1 - 1)) (by omega) (by omega)]
  simp
theorem ks_succ (n : Nat) : ks (n + 1) = ks n ++ [1 + (n : Int)] := by simp [ks, List.range_succ]
theorem KV.snoc {K : Type} {R : Value → D → Prop} {k : K} {v : Value} {d : D} (h : R v d) : ∀ {l : List (K × Value)} {r : List (K × D)}, KV R l r → KV R (l ++ [(k, v)]) (r ++ [(k, d)])
  | [], [], _ => ⟨rfl, h, trivial⟩
  | _ :: _, _ :: _, q => ⟨q.1, q.2.1, KV.snoc h q.2.2⟩
theorem KV.keys {K : Type} {R : Value → D → Prop} : ∀ {l : List (K × Value)} {r : List (K × D)}, KV R l r → l.map (·.1) = r.map (·.1)
  | [], [], _ => rfl
  | _ :: _, _ :: _, q => by simp only [List.map_cons, q.1, KV.keys q.2.2]
theorem KV.len {K : Type} {R : Value → D → Prop} : ∀ {l : List (K × Value)} {r : List (K × D)}, KV R l r → l.length = r.length
  | [], [], _ => rfl
  | _ :: _, _ :: _, q => by simp only [List.length_cons, KV.len q.2.2]
structure ShS where
  op : Obj
  oq : Obj
  od : Obj
  kvs : List (Int × Value)
  T : List (Int × D)
  R : List (Addr × Obj)
noncomputable def ShLed (d p q : Addr) (c : ShS) : List (Addr × Obj) := (d, c.od) :: (p, c.op) :: (q, c.oq) :: c.R
structure ShP (w : World) (h0 : Heap) (d p q : Addr) (i : Nat) (c : ShS) : Prop where
  pen : IsPen q c.op c.oq
  dic : c.od.IsDictOf (IK w) c.kvs
  has : HasKV c.R c.kvs c.T
  keys : c.T.map (·.1) = ks i
  offp : ∀ x ∈ c.R, x.1 ≠ p
  offq : ∀ x ∈ c.R, x.1 ≠ q
  offd : ∀ x ∈ c.R, x.1 ≠ d
  fresh : ∀ x ∈ c.R, h0.get? x.1 = none
theorem ShP.kvkeys {w : World} {h0 g L h : Heap} {d p q : Addr} {i : Nat} {c : ShS} (x : ShP w h0 d p q i c) (hR : ∀ y ∈ c.R, h.get? y.1 = some y.2) : c.kvs.map (·.1) = ks i := by rw [(x.has h hR).keys, x.keys]
theorem ks_not (i : Nat) : (1 + (i : Int)) ∉ ks i := by
  intro h
  simp only [ks, List.mem_map, List.mem_range] at h
  obtain ⟨j, h1, h2⟩ := h
  omega
theorem sub1 {α : Type} {a : α} {l : List α} (h : a ∈ l) : ∀ y ∈ [a], y ∈ l := fun y hy => by rw [List.mem_singleton.mp hy]; exact h
theorem sub2 {α : Type} {a b : α} {l : List α} (h : a ∈ l) (h' : b ∈ l) : ∀ y ∈ [a, b], y ∈ l := fun y hy => by
  rcases List.mem_cons.mp hy with rfl | hy
  · exact h
  · exact sub1 h' y hy
theorem allLt_mem {a : Addr} : ∀ {l : List (Addr × Obj)}, AllLt a l → ∀ x ∈ l, x.1 < a
  | [], _, _, h => nomatch h
  | _ :: _, q, x, h => (List.mem_cons.mp h).elim (fun e => e ▸ q.1) fun h => allLt_mem q.2 x h
theorem allLt_own {R own : List (Addr × Obj)} {a I : Addr} {o : Obj} (h : AllLt a (R ++ own)) (hI : (I, o) ∈ own) : I < a := allLt_mem h _ (List.mem_append_right _ hI)
theorem le1 {a0 a : Addr} {o : Obj} (h : @LE.le Nat _ a0 a) : ∀ y ∈ [(a, o)], @LE.le Nat _ a0 y.1 := fun y hy => by rw [List.mem_singleton.mp hy]; exact h
theorem le2 {a0 a b : Addr} {o o' : Obj} (h : @LE.le Nat _ a0 a) (h' : @LE.le Nat _ a0 b) : ∀ y ∈ [(a, o), (b, o')], @LE.le Nat _ a0 y.1 := fun y hy => by
  rcases List.mem_cons.mp hy with rfl | hy
  · exact h
  · exact le1 h' y hy
theorem has_list {l : Addr} {vs : List Value} {n : Nat} (ps : List P) (h : ∀ g, IsPs g vs ps) (hl : ps.length ≤ 64) : Has [(l, listOf vs.toArray n)] (.ref l) (.list ps) := fun g hR => ⟨l, vs, n, rfl, hR _ List.mem_cons_self, h g, hl⟩
theorem has_ref {x dx : Addr} {es : List DictEntry} {k : Nat} {n : Int} {t t' : Tok} (h1 : getL "number" es = some (some (.int n t))) (h2 : getL "generation" es = some (some (.int 0 t'))) : Has [(x, instObj 261 dx), (dx, dictOf es k)] (.ref x) (.p (.ref n)) :=
  fun g hR => ⟨x, dx, es, k, t, t', rfl, hR _ List.mem_cons_self, hR _ (List.mem_cons_of_mem _ List.mem_cons_self), h1, h2⟩
theorem has_name {x dx : Addr} {es : List DictEntry} {k : Nat} {n : Str} {t : Tok} (h1 : getL "text" es = some (some (.str n t))) : Has [(x, instObj 190 dx), (dx, dictOf es k)] (.ref x) (.p (.name n)) :=
  fun g hR => ⟨x, dx, es, k, t, rfl, hR _ List.mem_cons_self, hR _ (List.mem_cons_of_mem _ List.mem_cons_self), h1⟩
theorem has_int {i : Int} {t : Tok} : Has [] (.int i t) (.p (.int i)) := fun _ _ => ⟨t, rfl⟩
theorem has_none : Has [] .none (.p .none) := fun _ _ => rfl
theorem sh_next {w : World} {h0 g h6 : Heap} {L d p q I : Addr} {i : Nat} {c : ShS} {x : Str} {m₀ m6 : Str → Option Value} {NEWS own : List (Addr × Obj)} {o6 op' oq' : Obj} {k : Int} {v : Value} {s₁ : Shared} {tk : Nat} (P : ShP w h0 d p q i c)
    (F : Fr g L h6 m6) (N : News g L h6 NEWS) (hd : (d, o6) ∈ NEWS) (hp : (p, op') ∈ NEWS) (hq : (q, oq') ∈ NEWS) (hR : ∀ y ∈ c.R, y ∈ NEWS) (ho : ∀ y ∈ own, y ∈ NEWS) (pen : IsPen q op' oq') (hk : k = 1 + (i : Int)) (hdo : o6.IsDictOf (IK w) (stored c.kvs k v))
    (hnI : ∀ y ∈ ShLed d p q c, y.1 ≠ I) (hm : ∀ z, z ≠ x → m6 z = m₀ z) (Rn : List (Addr × Obj)) (dd : D) (hRn : ∀ y ∈ Rn, y ∈ NEWS) (a0 : Addr) (ha : @LT.lt Nat _ p a0 ∧ @LT.lt Nat _ q a0 ∧ @LT.lt Nat _ d a0 ∧ @LT.lt Nat _ I a0) (hle : ∀ y ∈ Rn, @LE.le Nat _ a0 y.1) (hb : But [p, q] h0 g) (hv : Has Rn v dd) :
    GrowEnd g L (GrowS (ShLed d p q) (fun _ => []) x [] m₀ (ShP w h0 d p q (i + 1))) own I s₁ { s₁ with heap := h6, toks := tk } := by
  have hkk := (P.has h6 fun y hy => (N y (hR y hy)).1)
  have h1 : ∀ y ∈ Rn, y.1 ≠ p := fun y hy => Nat.ne_of_gt (Nat.lt_of_lt_of_le ha.1 (hle y hy))
  have h2 : ∀ y ∈ Rn, y.1 ≠ q := fun y hy => Nat.ne_of_gt (Nat.lt_of_lt_of_le ha.2.1 (hle y hy))
  have h3 : ∀ y ∈ Rn, y.1 ≠ d := fun y hy => Nat.ne_of_gt (Nat.lt_of_lt_of_le ha.2.2.1 (hle y hy))
  have h4 : ∀ y ∈ Rn, y.1 ≠ I := fun y hy => Nat.ne_of_gt (Nat.lt_of_lt_of_le ha.2.2.2 (hle y hy))
  have hst : stored c.kvs k v = c.kvs ++ [(k, v)] := stored_absent (valueAt_none_of_not_mem (by rw [hkk.keys, P.keys, hk]; exact ks_not i)) v
  rw [hst] at hdo
  have hnI' : d ≠ I ∧ p ≠ I ∧ q ≠ I ∧ ∀ y ∈ c.R, y.1 ≠ I := ⟨hnI _ List.mem_cons_self, hnI (p, c.op) (List.mem_cons_of_mem _ List.mem_cons_self), hnI (q, c.oq) (List.mem_cons_of_mem _ (List.mem_cons_of_mem _ List.mem_cons_self)), fun y hy => hnI y (List.mem_cons_of_mem _ (List.mem_cons_of_mem _ (List.mem_cons_of_mem _ hy)))⟩
  refine grow_end ⟨op', oq', o6, c.kvs ++ [(k, v)], c.T ++ [(k, dd)], c.R ++ Rn⟩ F N ?_ ho ?_ (fun p hp => nomatch hp) (fun z hz _ _ => hm z hz) ?_
  · intro y hy
    simp only [ShLed, List.mem_cons, List.mem_append] at hy
    rcases hy with rfl | rfl | rfl | hy | hy
    · exact hd
    · exact hp
    · exact hq
    · exact hR y hy
    · exact hRn y hy
  · intro y hy
    simp only [ShLed, List.mem_cons, List.mem_append] at hy
    rcases hy with rfl | rfl | rfl | hy | hy
    · exact hnI'.1
    · exact hnI'.2.1
    · exact hnI'.2.2.1
    · exact hnI'.2.2.2 y hy
    · exact h4 y hy
  · refine ⟨pen, hdo, fun h hh => ?_, ?_, List.forall_mem_append.mpr ⟨P.offp, h1⟩, List.forall_mem_append.mpr ⟨P.offq, h2⟩, List.forall_mem_append.mpr ⟨P.offd, h3⟩, List.forall_mem_append.mpr ⟨P.fresh, fun y hy => fresh1 hb (N y (hRn y hy)).2.2 (h1 y hy) (h2 y hy)⟩⟩
    · exact KV.snoc (hv h fun y hy => hh y (List.mem_append_right _ hy)) (P.has h fun y hy => hh y (List.mem_append_left _ hy))
    · rw [List.map_append, P.keys, ks_succ, hk]; rfl
section
local macro_rules | `(tactic| k_enter) => `(tactic| kcf_m)
local macro_rules | `(tactic| k_all) => `(tactic| with_reducible assumption)
local macro_rules | `(tactic| walk_at "pyIter ref") => `(tactic| ((with_reducible show wpAny _ _ (pyIter (Value.ref _)) (fun it s₂ => LoopAtV _ _ _ _ _ _ _ _ _ it s₂) _ _); refine Hold.out ?_))
local macro_rules | `(tactic| walk_at "exec For Name Call cons nil") => `(tactic| (k_here; (rename Fr _ _ _ _ => lF'); (with_unfolding_all refine' For_invVF lF' ?k1 ?k2 ?_; (case k1 => exact rfl); (case k2 => exact rfl); k_whole)))
local macro_rules | `(tactic| walk_at "setItem ref int") => `(tactic| refine Hold.out ?_)
theorem shelf_ok {w : World} {mean : ExcName → Option Value} {mg mb : Str → Option Value} {dp un : Nat} {gd : Option (List Code)} {cn : Str} {cs : Scope} {a : Addr} {ccd : Value} {cl : List (Str × Addr)} {outer : List Env} {A₀ : Around} {base h₀ : Heap} {L : Addr} {m : Str → Option Value} {s : Shared} {Q E : Value → Shared → Prop}
    (B : Below A₀ base outer h₀) (F : Fr h₀ L s.heap m) (X : (hd.heap_1 w.params).In h₀) (T : Top view (looseW view looseN) mean mg mb h₀) (hk : cs.kind = .function)
    {p q : Addr} {op oq : Obj} {news : List (Addr × Obj)} {u1 : Obj → List (Addr × Obj)} {u2 : Obj → Obj → List (Addr × Obj)} 
    (N : News h₀ L s.heap news) (U1 : UpdF p op news u1) (U2 : ∀ o', UpdF q oq (u1 o') (u2 o')) (hp : IsPen q op oq) (hpq : @Ne Nat p q) 
    (hd : dp + 230 < recursionLimit) (hu : un + 230 < cLine)
    (ret : ∀ (t : Addr) (R : List (Addr × Obj)) (od : Obj) (kvs : List (Int × Value)) (T' : List (Int × D)) h' tk' op' oq', Fr h₀ L h' m → News h₀ L h' (u2 op' oq') → IsPen q op' oq' → But [p, q] s.heap h' → (∀ x ∈ (t, od) :: R, h'.get? x.1 = some x.2 ∧ s.heap.get? x.1 = none) → (t == sysModules) = false → od.IsDictOf (IK w) kvs → HasKV R kvs T' → (∃ n, n ≤ 4 ∧ T'.map (·.1) = ks n) → Q (.ref t) { s with heap := h', toks := tk' }) :
    wpAny (model PySem.Challenge.rw_nn0123_01.row.prog w) (ktrTop dp un gd cn cs L a ccd cl outer) (call (.ref 453) [.ref p]) Q E s := by
  revert X; k_fill; intro X
  have N0 := pen_sub N U1 U2
  refine wpAny_call ?_
  k_dflt (refine' code_defH (binds := [(Str.ofString "pen", .ref p)]) ?k1 ?k2 ?k3 ?k4 ?k5 ?kA ?kF ?kK ?k6 ?k7 ?k8 ?k9 ?kB ?_ ?c2 ?c3 ?c4 ?c5; (case kA => exact rfl); (case kF => exact rfl); (case kK => assumption); (case k1 => k_asm); (case k2 => k_asm); (case k3 => k_asm); (case k4 => k_asm); (case k5 => k_asm); (case k6 => k_is); (case k7 => k_is); (case k8 => ktr_room); (case k9 => exact BindsTo.of_eq rfl); (case c5 => decide); (case kB => exact locs rfl); (case c2 => exact rfl); (case c3 => exact rfl); (case c4 => exact rfl); k_whole)
  intro g1 L1 h1 FG1 F1 N1 B1 X1 T1 hB1 hS1 hL1 hZ1
  (try dsimp only)
  (try simp only [AllLt, and_true] at hL1)
  (try k_fold)
  (k_steps; repeat' ((refine Hold.mk ?_; first | ((with_reducible show wpAny _ _ (call (Value.ref 434) [_, _]) _ _ _); (refine' pick_ok ?B ?F ?X ?T ?hk ?N ?U1 ?U2 ?hp ?hpq ?hl ?hlp ?hne ?hle ?hd ?hu ?_; (case B => k_asm); (case F => k_asm); (case X => k_asm); (case T => k_asm); (case hk => first | exact rfl | assumption); (case N => k_asm); (case U1 => k_updF); (case hp => assumption); (case hpq => assumption); (case U2 => (intro zo8; (try dsimp only); k_updF)); (case hl => exact (news_here (by assumption) (by k_mem))); (case hlp => exact off2 (by k_ne) (by k_ne)); (case hne => exact Nat.le_of_ble_eq_true rfl); (case hle => exact Nat.le_of_ble_eq_true rfl); (case hd => ktr_room); (case hu => ktr_units)); intro zv9 zh9 ztk9 zop9 zoq9 zF9 zN9 zhp9 zhb9 zhm9; (try dsimp only at zN9); refine Hold.out ?_) | ((with_reducible show wpAny _ _ (call (Value.ref 427) [_, _]) _ _ _); (refine' draw_pen ?B ?F ?X ?T ?hk ?N ?U1 ?U2 ?hp ?hpq ?hm ?hd ?hu ?_; (case B => k_asm); (case F => k_asm); (case X => k_asm); (case T => k_asm); (case hk => first | exact rfl | assumption); (case N => k_asm); (case U1 => k_updF); (case hp => assumption); (case hpq => assumption); (case U2 => (intro zo8; (try dsimp only); k_updF)); (case hm => first | decide | omega); (case hd => ktr_room); (case hu => ktr_units)); intro zr9 zt9 zh9 ztk9 zop9 zoq9 zF9 zN9 zhp9 zhb9 zh09 zh19; (try dsimp only at zN9))); k_steps))
  unfold Hold
  rename IsRange _ _ _ _ _ _ _ _ => rgX
  rename Fr g1 _ _ _ => lF'
  rename News g1 _ _ _ => lN'
  rename IsPen q _ _ => hpz
  rename Obj.IsDictOf (intKind _ _) _ _ => hi0
  rename 0 ≤ _ => hr0
  rename _ < (4 : Int) => hr1
  rename (_ == sysModules) = false => hlo
  refine' grow_range (ShLed ?dd p q) (fun _ => []) [] (ShP w s.heap ?dd p q) ⟨_, _, _, [], [], []⟩ (by rfl) rgX (small_from (by omega) (by omega) (by omega)) (rangeSize_nat _ _) lF' lN' (fun p hp => nomatch hp) ?kp ?_ ?_
  case kp => exact ⟨hpz, hi0, fun _ _ => trivial, rfl, List.forall_mem_nil _, List.forall_mem_nil _, List.forall_mem_nil _, List.forall_mem_nil _⟩
  · intro c i k t u I h tk own hk hin hnI hown hal hP F2 N2
    obtain ⟨op2, oq2, od2, kvs2, T2, R2⟩ := c
    obtain ⟨oI, hoI⟩ := hal
    obtain ⟨hpen, hdic, hhas, hkeys, hop, hoq, hod, hfr⟩ := hP
    dsimp only at hpen hdic hhas hkeys hop hoq hod hfr
    simp only [ShLed, List.cons_append] at N2
    have hnIp : p ≠ I := hnI (p, op2) (List.mem_cons_of_mem _ List.mem_cons_self)
    have hnIq : q ≠ I := hnI (q, oq2) (List.mem_cons_of_mem _ (List.mem_cons_of_mem _ List.mem_cons_self))
    have hap : ∀ x ∈ R2 ++ own, x.1 ≠ p := List.forall_mem_append.mpr ⟨hop, fun x hx => by rw [hown x hx]; exact Ne.symm hnIp⟩
    have haq : ∀ x ∈ R2 ++ own, x.1 ≠ q := List.forall_mem_append.mpr ⟨hoq, fun x hx => by rw [hown x hx]; exact Ne.symm hnIq⟩
    have hkk := (hhas h fun y hy => (N2 y (by simp [hy])).1).len
    have hkl : T2.length = i := by have := congrArg List.length hkeys; simpa [ks] using this
    have had : ∀ x ∈ R2 ++ own, _ := List.forall_mem_append.mpr ⟨hod, fun x hx => by rw [hown x hx]; exact Ne.symm (hnI _ List.mem_cons_self)⟩
    (k_steps; repeat' ((refine Hold.mk ?_; first | ((with_reducible show wpAny _ _ (call (Value.ref 434) [_, _]) _ _ _); (refine' pick_ok ?B ?F ?X ?T ?hk ?N ?U1 ?U2 ?hp ?hpq ?hl ?hlp ?hne ?hle ?hd ?hu ?_; (case B => k_asm); (case F => k_asm); (case X => k_asm); (case T => k_asm); (case hk => first | exact rfl | assumption); (case N => k_asm); (case U1 => k_updF); (case hp => assumption); (case hpq => assumption); (case U2 => (intro zo8; (try dsimp only); k_updF)); (case hl => exact (news_here (by assumption) (by k_mem))); (case hlp => exact off2 (by k_ne) (by k_ne)); (case hne => exact Nat.le_of_ble_eq_true rfl); (case hle => exact Nat.le_of_ble_eq_true rfl); (case hd => ktr_room); (case hu => ktr_units)); intro zv9 zh9 ztk9 zop9 zoq9 zF9 zN9 zhp9 zhb9 zhm9; (try dsimp only at zN9); refine Hold.out ?_) | ((with_reducible show wpAny _ _ (call (Value.ref 427) [_, _]) _ _ _); (refine' draw_pen ?B ?F ?X ?T ?hk ?N ?U1 ?U2 ?hp ?hpq ?hm ?hd ?hu ?_; (case B => k_asm); (case F => k_asm); (case X => k_asm); (case T => k_asm); (case hk => first | exact rfl | assumption); (case N => k_asm); (case U1 => k_updF); (case hp => assumption); (case hpq => assumption); (case U2 => (intro zo8; (try dsimp only); k_updF)); (case hm => first | decide | omega); (case hd => ktr_room); (case hu => ktr_units)); intro zr9 zt9 zh9 ztk9 zop9 zoq9 zF9 zN9 zhp9 zhb9 zh09 zh19; (try dsimp only at zN9))); k_steps))
    dsimp only [Hold]
    rename _ ∈ [_, _, _, _, _, _, _, _] => hm9
    obtain ⟨hld, hlp, hlq, hlt⟩ : _ ∧ _ ∧ _ ∧ AllLt _ (R2 ++ own) := by assumption
    have hIl := ltN (allLt_own hlt hoI)
    have hab := And.intro hlp (And.intro hlq (And.intro hld hIl))
    (k_steps; repeat' ((refine Hold.mk ?_; first | ((with_reducible show wpAny _ _ (call (Value.ref 434) [_, _]) _ _ _); (refine' pick_ok ?B ?F ?X ?T ?hk ?N ?U1 ?U2 ?hp ?hpq ?hl ?hlp ?hne ?hle ?hd ?hu ?_; (case B => k_asm); (case F => k_asm); (case X => k_asm); (case T => k_asm); (case hk => first | exact rfl | assumption); (case N => k_asm); (case U1 => k_updF); (case hp => assumption); (case hpq => assumption); (case U2 => (intro zo8; (try dsimp only); k_updF)); (case hl => exact (news_here (by assumption) (by k_mem))); (case hlp => exact off2 (by k_ne) (by k_ne)); (case hne => exact Nat.le_of_ble_eq_true rfl); (case hle => exact Nat.le_of_ble_eq_true rfl); (case hd => ktr_room); (case hu => ktr_units)); intro zv9 zh9 ztk9 zop9 zoq9 zF9 zN9 zhp9 zhb9 zhm9; (try dsimp only at zN9); refine Hold.out ?_) | ((with_reducible show wpAny _ _ (call (Value.ref 427) [_, _]) _ _ _); (refine' draw_pen ?B ?F ?X ?T ?hk ?N ?U1 ?U2 ?hp ?hpq ?hm ?hd ?hu ?_; (case B => k_asm); (case F => k_asm); (case X => k_asm); (case T => k_asm); (case hk => first | exact rfl | assumption); (case N => k_asm); (case U1 => k_updF); (case hp => assumption); (case hpq => assumption); (case U2 => (intro zo8; (try dsimp only); k_updF)); (case hm => first | decide | omega); (case hd => ktr_room); (case hu => ktr_units)); intro zr9 zt9 zh9 ztk9 zop9 zoq9 zF9 zN9 zhp9 zhb9 zh09 zh19; (try dsimp only at zN9))); k_steps))
    unfold Hold
    rename News g1 _ _ _ => Nz
    refine kda_set (knd := IK w) (by assumption) Nz (by k_updF) hdic (intKind_is _ _ _ _) (by rw [sizeLine_eq]; omega) ?_
    intro h6 o6 F6 N6 hd6
    (try dsimp only at N6)
    (k_steps; repeat' ((refine Hold.mk ?_; first | ((with_reducible show wpAny _ _ (call (Value.ref 434) [_, _]) _ _ _); (refine' pick_ok ?B ?F ?X ?T ?hk ?N ?U1 ?U2 ?hp ?hpq ?hl ?hlp ?hne ?hle ?hd ?hu ?_; (case B => k_asm); (case F => k_asm); (case X => k_asm); (case T => k_asm); (case hk => first | exact rfl | assumption); (case N => k_asm); (case U1 => k_updF); (case hp => assumption); (case hpq => assumption); (case U2 => (intro zo8; (try dsimp only); k_updF)); (case hl => exact (news_here (by assumption) (by k_mem))); (case hlp => exact off2 (by k_ne) (by k_ne)); (case hne => exact Nat.le_of_ble_eq_true rfl); (case hle => exact Nat.le_of_ble_eq_true rfl); (case hd => ktr_room); (case hu => ktr_units)); intro zv9 zh9 ztk9 zop9 zoq9 zF9 zN9 zhp9 zhb9 zhm9; (try dsimp only at zN9); refine Hold.out ?_) | ((with_reducible show wpAny _ _ (call (Value.ref 427) [_, _]) _ _ _); (refine' draw_pen ?B ?F ?X ?T ?hk ?N ?U1 ?U2 ?hp ?hpq ?hm ?hd ?hu ?_; (case B => k_asm); (case F => k_asm); (case X => k_asm); (case T => k_asm); (case hk => first | exact rfl | assumption); (case N => k_asm); (case U1 => k_updF); (case hp => assumption); (case hpq => assumption); (case U2 => (intro zo8; (try dsimp only); k_updF)); (case hm => first | decide | omega); (case hd => ktr_room); (case hu => ktr_units)); intro zr9 zt9 zh9 ztk9 zop9 zoq9 zF9 zN9 zhp9 zhb9 zh09 zh19; (try dsimp only at zN9))); k_steps))
    unfold GrowPost
    dsimp only [Hold]
    have hP' : ShP w s.heap _ p q i ⟨op2, oq2, od2, kvs2, T2, R2⟩ := ⟨hpen, hdic, hhas, hkeys, hop, hoq, hod, hfr⟩
    rename IsPen q _ _ => hpen9
    simp only [List.mem_cons, List.not_mem_nil, or_false] at hm9
    rcases hm9 with rfl | rfl | rfl | rfl | rfl | rfl | rfl | rfl
    · exact sh_next hP' F6 N6 (by k_mem) (by k_mem) (by k_mem) (fun y hy => by repeat (first | exact List.mem_append_left _ hy | exact List.mem_append_right _ hy | refine List.mem_cons_of_mem _ ?_)) (fun y hy => by repeat (first | exact List.mem_append_left _ hy | exact List.mem_append_right _ hy | refine List.mem_cons_of_mem _ ?_)) hpen9 hk hd6 hnI (fun z hz => by simp [kstB, hz]) _ _ (sub1 (by k_mem)) _ hab (le1 (by omega)) hB1 (has_list [.int 1, .int 2, .int 1] (fun g => by exact ⟨⟨_, rfl⟩, ⟨_, rfl⟩, ⟨_, rfl⟩, trivial⟩) (by decide))
    · exact sh_next hP' F6 N6 (by k_mem) (by k_mem) (by k_mem) (fun y hy => by repeat (first | exact List.mem_append_left _ hy | exact List.mem_append_right _ hy | refine List.mem_cons_of_mem _ ?_)) (fun y hy => by repeat (first | exact List.mem_append_left _ hy | exact List.mem_append_right _ hy | refine List.mem_cons_of_mem _ ?_)) hpen9 hk hd6 hnI (fun z hz => by simp [kstB, hz]) _ _ (List.forall_mem_nil _) _ hab (List.forall_mem_nil _) hB1 has_int
    · exact sh_next hP' F6 N6 (by k_mem) (by k_mem) (by k_mem) (fun y hy => by repeat (first | exact List.mem_append_left _ hy | exact List.mem_append_right _ hy | refine List.mem_cons_of_mem _ ?_)) (fun y hy => by repeat (first | exact List.mem_append_left _ hy | exact List.mem_append_right _ hy | refine List.mem_cons_of_mem _ ?_)) hpen9 hk hd6 hnI (fun z hz => by simp [kstB, hz]) _ _ (sub2 (by k_mem) (by k_mem)) _ hab (le2 (by omega) (by omega)) hB1 (has_ref (by rfl) (by rfl))
    · exact sh_next hP' F6 N6 (by k_mem) (by k_mem) (by k_mem) (fun y hy => by repeat (first | exact List.mem_append_left _ hy | exact List.mem_append_right _ hy | refine List.mem_cons_of_mem _ ?_)) (fun y hy => by repeat (first | exact List.mem_append_left _ hy | exact List.mem_append_right _ hy | refine List.mem_cons_of_mem _ ?_)) hpen9 hk hd6 hnI (fun z hz => by simp [kstB, hz]) _ _ (sub1 (by k_mem)) _ hab (le1 (by omega)) hB1 (has_list [.int 0, .int 3] (fun g => by exact ⟨⟨_, rfl⟩, ⟨_, rfl⟩, trivial⟩) (by decide))
    · exact sh_next hP' F6 N6 (by k_mem) (by k_mem) (by k_mem) (fun y hy => by repeat (first | exact List.mem_append_left _ hy | exact List.mem_append_right _ hy | refine List.mem_cons_of_mem _ ?_)) (fun y hy => by repeat (first | exact List.mem_append_left _ hy | exact List.mem_append_right _ hy | refine List.mem_cons_of_mem _ ?_)) hpen9 hk hd6 hnI (fun z hz => by simp [kstB, hz]) _ _ (sub2 (by k_mem) (by k_mem)) _ hab (le2 (by omega) (by omega)) hB1 (has_name (by rfl))
    · exact sh_next hP' F6 N6 (by k_mem) (by k_mem) (by k_mem) (fun y hy => by repeat (first | exact List.mem_append_left _ hy | exact List.mem_append_right _ hy | refine List.mem_cons_of_mem _ ?_)) (fun y hy => by repeat (first | exact List.mem_append_left _ hy | exact List.mem_append_right _ hy | refine List.mem_cons_of_mem _ ?_)) hpen9 hk hd6 hnI (fun z hz => by simp [kstB, hz]) _ _ (List.forall_mem_nil _) _ hab (List.forall_mem_nil _) hB1 has_int
    · exact sh_next hP' F6 N6 (by k_mem) (by k_mem) (by k_mem) (fun y hy => by repeat (first | exact List.mem_append_left _ hy | exact List.mem_append_right _ hy | refine List.mem_cons_of_mem _ ?_)) (fun y hy => by repeat (first | exact List.mem_append_left _ hy | exact List.mem_append_right _ hy | refine List.mem_cons_of_mem _ ?_)) hpen9 hk hd6 hnI (fun z hz => by simp [kstB, hz]) _ _ (sub1 (by k_mem)) _ hab (le1 (by omega)) hB1 (has_list [.int 3] (fun g => by exact ⟨⟨_, rfl⟩, trivial⟩) (by decide))
    · exact sh_next hP' F6 N6 (by k_mem) (by k_mem) (by k_mem) (fun y hy => by repeat (first | exact List.mem_append_left _ hy | exact List.mem_append_right _ hy | refine List.mem_cons_of_mem _ ?_)) (fun y hy => by repeat (first | exact List.mem_append_left _ hy | exact List.mem_append_right _ hy | refine List.mem_cons_of_mem _ ?_)) hpen9 hk hd6 hnI (fun z hz => by simp [kstB, hz]) _ _ (List.forall_mem_nil _) _ hab (List.forall_mem_nil _) hB1 has_none
  · intro c u h tk hP F2 N2
    (k_steps; repeat' ((refine Hold.mk ?_; first | ((with_reducible show wpAny _ _ (call (Value.ref 434) [_, _]) _ _ _); (refine' pick_ok ?B ?F ?X ?T ?hk ?N ?U1 ?U2 ?hp ?hpq ?hl ?hlp ?hne ?hle ?hd ?hu ?_; (case B => k_asm); (case F => k_asm); (case X => k_asm); (case T => k_asm); (case hk => first | exact rfl | assumption); (case N => k_asm); (case U1 => k_updF); (case hp => assumption); (case hpq => assumption); (case U2 => (intro zo8; (try dsimp only); k_updF)); (case hl => exact (news_here (by assumption) (by k_mem))); (case hlp => exact off2 (by k_ne) (by k_ne)); (case hne => exact Nat.le_of_ble_eq_true rfl); (case hle => exact Nat.le_of_ble_eq_true rfl); (case hd => ktr_room); (case hu => ktr_units)); intro zv9 zh9 ztk9 zop9 zoq9 zF9 zN9 zhp9 zhb9 zhm9; (try dsimp only at zN9); refine Hold.out ?_) | ((with_reducible show wpAny _ _ (call (Value.ref 427) [_, _]) _ _ _); (refine' draw_pen ?B ?F ?X ?T ?hk ?N ?U1 ?U2 ?hp ?hpq ?hm ?hd ?hu ?_; (case B => k_asm); (case F => k_asm); (case X => k_asm); (case T => k_asm); (case hk => first | exact rfl | assumption); (case N => k_asm); (case U1 => k_updF); (case hp => assumption); (case hpq => assumption); (case U2 => (intro zo8; (try dsimp only); k_updF)); (case hm => first | decide | omega); (case hd => ktr_room); (case hu => ktr_units)); intro zr9 zt9 zh9 ztk9 zop9 zoq9 zF9 zN9 zhp9 zhb9 zh09 zh19; (try dsimp only at zN9))); k_steps))
    rename News h₀ _ _ _ => Ny
    have hbut := But.ofFr hB1 F2
    have hnews := pen_news N U1 U2 hbut (news2 Ny (a := (p, c.op)) (b := (q, c.oq)) (List.mem_cons_of_mem _ List.mem_cons_self) (List.mem_cons_of_mem _ (List.mem_cons_of_mem _ List.mem_cons_self)))
    refine ret _ c.R c.od c.kvs c.T _ _ _ _ (by assumption) hnews hP.pen hbut (List.forall_mem_cons.mpr ⟨⟨(N2 _ List.mem_cons_self).1, ?_⟩, fun x hx => ⟨(N2 x (by simp [ShLed, hx])).1, hP.fresh x hx⟩⟩) hlo hP.dic hP.has ⟨_, ?_, hP.keys⟩
    · exact fresh1 hB1 (N2 _ List.mem_cons_self).2.2 (by k_ne) (by k_ne)
    · omega
end

set_option maxRecDepth 100000
set_option maxHeartbeats 8000000
theorem ints_get {vs : List Value} {ns : List Int} (h : IntsAre vs ns) : ∀ {i : Nat} {v : Value}, vs[i]? = some v → ∃ k t, v = .int k t := by
  induction h with
  | nil => intro i v e; simp at e
  | cons k t hr ih =>
    intro i v e
    cases i with
    | zero => exact ⟨k, t, by simpa using e.symm⟩
    | succ i => exact ih (by simpa using e)
section
local macro_rules | `(tactic| walk_at "CompSrc") => `(tactic| refine Hold.out ?_)
local macro_rules | `(tactic| walk_at "subscriptTail") => `(tactic| refine Hold.out ?_)
theorem pen_ok {w : World} {mean : ExcName → Option Value} {mg mb : Str → Option Value} {dp un : Nat} {gd : Option (List Code)} {cn : Str} {cs : Scope} {a : Addr} {ccd : Value} {cl : List (Str × Addr)} {outer : List Env} {A₀ : Around} {base h₀ : Heap} {L : Addr} {m : Str → Option Value} {s : Shared} {Q E : Value → Shared → Prop}
    (B : Below A₀ base outer h₀) (F : Fr h₀ L s.heap m) (X : (hd.heap_1 w.params).In h₀) (T : Top view (looseW view looseN) mean mg mb h₀) (hk : cs.kind = .function)
    {sc : Addr} {vs : List Value} {ns : List Int}
    (N : News h₀ L s.heap []) (hl : s.heap.IsList sc vs.toArray) (hi : IntsAre vs ns) (hle : vs.length ≤ 63)
    (hd : dp + 210 < recursionLimit) (hu : un + 210 < cLine)
    (ret : ∀ (p q : Addr) (op oq : Obj) h' tk', Fr h₀ L h' m → But [] s.heap h' → h'.get? p = some op → h'.get? q = some oq → s.heap.get? p = none → s.heap.get? q = none → (@Ne Nat p q) → IsPen q op oq → Q (.ref p) { s with heap := h', toks := tk' }) :
    wpAny (model PySem.Challenge.rw_nn0123_01.row.prog w) (ktrTop dp un gd cn cs L a ccd cl outer) (call (.ref 420) [.ref sc]) Q E s := by
  revert X; k_fill; intro X
  refine wpAny_call ?_
  k_dflt (refine' code_defH (binds := [(Str.ofString "script", .ref sc)]) ?k1 ?k2 ?k3 ?k4 ?k5 ?kA ?kF ?kK ?k6 ?k7 ?k8 ?k9 ?kB ?_ ?c2 ?c3 ?c4 ?c5; (case kA => exact rfl); (case kF => exact rfl); (case kK => assumption); (case k1 => k_asm); (case k2 => k_asm); (case k3 => k_asm); (case k4 => k_asm); (case k5 => k_asm); (case k6 => k_is); (case k7 => k_is); (case k8 => ktr_room); (case k9 => exact BindsTo.of_eq rfl); (case c5 => decide); (case kB => exact locs rfl); (case c2 => exact rfl); (case c3 => exact rfl); (case c4 => exact rfl); k_whole)
  intro g1 L1 h1 FG1 F1 N1 B1 X1 T1 hB1 hS1 hL1 hZ1
  (try dsimp only)
  (try simp only [AllLt, and_true] at hL1)
  (try k_fold)
  have hk1 : ∀ b o, s.heap.get? b = some o → g1.get? b = some o := fun b o e => hB1 b o e (by simp)
  obtain ⟨ol, hol, hc0, n0, hd0⟩ := hl
  have hl1 := hk1 _ _ hol
  have hll : g1.IsList sc vs.toArray := ⟨ol, hl1, hc0, n0, hd0⟩
  have hlc := Fr.keep F1 _ _ hl1
  k_steps
  unfold Hold
  rename IntsAre _ (List.take 63 ns) => hw
  have hwl := hw.length
  have hil := hi.length
  rename Fr g1 _ _ _ => Fz
  rename News g1 _ _ _ => Nz
  refine LCg.CompSrc.ledger (its := List.toArray _) (by rfl) Fz Nz (by k_mem) (by rw [sizeLine_eq]; simp; omega) fun g' => ?_
  refine comp_all (fun i ys => ∃ ms, IntsAre ys ms ∧ ms.length = i) ?_ ⟨[], .nil, rfl⟩ ?_
  · intro i v ys I oI C oC D m₂ h tk E' hi' hv hys hC hx F2 N2 off ne
    obtain ⟨k, t, rfl⟩ := ints_get hw (i := i) (by simpa using hv)
    obtain ⟨ms, hms, hml⟩ := hys
    simp only [Off3, and_true] at off
    k_steps
    all_goals unfold Hold
    all_goals exact ⟨rfl, ms ++ [_], hms.append (.cons _ _ .nil), by simp [hml]⟩
  · intro ys hys
    obtain ⟨ms, hms, hml⟩ := hys
    k_steps
    rename News g1 _ _ _ => Nz1
    rename Fr g1 _ _ _ => Fz1
    have hyl := hms.length
    have hx1 := Nz1 _ List.mem_cons_self
    have hx2 := Nz1 _ (List.mem_cons_of_mem _ List.mem_cons_self)
    have hno : ∀ b, g1.get? b = none → s.heap.get? b = none := fun b e => by
      cases q : s.heap.get? b with
      | none => rfl
      | some o => have := hk1 _ _ q; rw [e] at this; cases this
    refine ret _ _ _ _ _ _ (by assumption) (But.ofFr hB1 Fz1) hx1.1 hx2.1 (hno _ hx1.2.2) (hno _ hx2.2.2) (by k_ne) ⟨0, 0, _, _, _, ys, ms, _, rfl, rfl, hms, ?_, Int.le_refl 0⟩
    simp only [List.size_toArray] at hml
    omega
end

set_option maxRecDepth 100000
set_option maxHeartbeats 8000000

noncomputable def it (T : List (Int × D)) : Nat → D → D
  | 0, d => d
  | k + 1, d => it T k (step T d)
theorem it_succ (T : List (Int × D)) : ∀ (k : Nat) (d : D), it T (k + 1) d = step T (it T k d)
  | 0, _ => rfl
  | k + 1, d => it_succ T k (step T d)
theorem it_add (T : List (Int × D)) (a : Nat) : ∀ (b : Nat) (d : D), it T (a + b) d = it T b (it T a d)
  | 0, _ => rfl
  | b + 1, d => by rw [← Nat.add_assoc, it_succ, it_add T a b, it_succ]
theorem fetchK_all {T : List (Int × D)} : ∀ (k : Nat) (d : D), (∀ j, j ≤ k → (it T j d).isRef = true) → fetchK T k d = .p .none
  | 0, d, h => by
    have h0 : d.isRef = true := h 0 (Nat.le_refl 0)
    simp [fetchK, h0]
  | k + 1, d, h => by
    have h0 : d.isRef = true := h 0 (Nat.zero_le _)
    rw [fetchK, if_pos h0]
    exact fetchK_all k _ fun j hj => h (j + 1) (Nat.succ_le_succ hj)
theorem fetchK_at {T : List (Int × D)} : ∀ (j k : Nat) (d : D), j ≤ k → (it T j d).isRef = false → (∀ i, i < j → (it T i d).isRef = true) → fetchK T k d = it T j d
  | 0, k, d, _, h, _ => fetchK_non h k
  | j + 1, 0, d, hk, _, _ => absurd hk (Nat.not_succ_le_zero j)
  | j + 1, k + 1, d, hk, h, hb => by
    have h0 : d.isRef = true := hb 0 (Nat.succ_pos _)
    rw [fetchK, if_pos h0]
    exact fetchK_at j k _ (Nat.le_of_succ_le_succ hk) h fun i hi => hb (i + 1) (Nat.succ_lt_succ hi)
theorem lawF_all {T : List (Int × D)} : ∀ (k : Nat) (d : D), (∀ j, j < k → (it T j d).isRef = true) → lawF T k d = .p .none
  | 0, _, _ => rfl
  | k + 1, d, h => by
    have h0 : d.isRef = true := h 0 (Nat.succ_pos _)
    rw [lawF, if_pos h0]
    exact lawF_all k _ fun j hj => h (j + 1) (Nat.succ_lt_succ hj)
theorem lawF_at {T : List (Int × D)} : ∀ (j k : Nat) (d : D), j < k → (it T j d).isRef = false → (∀ i, i < j → (it T i d).isRef = true) → lawF T k d = it T j d
  | j, 0, _, hk, _, _ => absurd hk (Nat.not_lt_zero j)
  | 0, k + 1, d, _, h, _ => lawF_non h k
  | j + 1, k + 1, d, hk, h, hb => by
    have h0 : d.isRef = true := hb 0 (Nat.succ_pos _)
    rw [lawF, if_pos h0]
    exact lawF_at j k _ (Nat.lt_of_succ_lt_succ hk) h fun i hi => hb (i + 1) (Nat.succ_lt_succ hi)
theorem ref_num {d : D} (h : d.isRef = true) : ∃ n, d = .p (.ref n) := by
  cases d with
  | p p => cases p with
    | ref n => exact ⟨n, rfl⟩
    | _ => cases h
  | _ => cases h
theorem step_key {T : List (Int × D)} {n : Int} {N : Nat} (hk : T.map (·.1) = ks N) (hN : N ≤ 4) (h : (step T (.p (.ref n))).isRef = true) : 1 ≤ n ∧ n ≤ 4 := by
  cases hl : lookT T n with
  | none => simp [step, hl, D.isRef] at h
  | some d =>
    unfold lookT at hl
    cases hf : T.find? (fun x => decide (x.1 = n)) with
    | none => rw [hf] at hl; cases hl
    | some p =>
      have hm := List.mem_of_find?_eq_some hf
      have hp := List.find?_some hf
      have hp' : p.1 = n := of_decide_eq_true hp
      have : n ∈ ks N := by rw [← hk, ← hp']; exact List.mem_map_of_mem hm
      simp only [ks, List.mem_map, List.mem_range] at this
      obtain ⟨i, h1, h2⟩ := this
      omega
noncomputable def fi (f : Fin 4) : Int := (f.val : Int) + 1
theorem fi_of {a : Int} (h : 1 ≤ a ∧ a ≤ 4) : ∃ f : Fin 4, a = fi f := ⟨⟨(a - 1).toNat, by omega⟩, by unfold fi; dsimp only; omega⟩
theorem pig : ∀ a b c d e : Fin 4, a = b ∨ a = c ∨ a = d ∨ a = e ∨ b = c ∨ b = d ∨ b = e ∨ c = d ∨ c = e ∨ d = e := by decide +kernel
theorem pigeon {a b c d e : Int} (h1 : 1 ≤ a ∧ a ≤ 4) (h2 : 1 ≤ b ∧ b ≤ 4) (h3 : 1 ≤ c ∧ c ≤ 4) (h4 : 1 ≤ d ∧ d ≤ 4) (h5 : 1 ≤ e ∧ e ≤ 4) :
    a = b ∨ a = c ∨ a = d ∨ a = e ∨ b = c ∨ b = d ∨ b = e ∨ c = d ∨ c = e ∨ d = e := by
  obtain ⟨a, rfl⟩ := fi_of h1
  obtain ⟨b, rfl⟩ := fi_of h2
  obtain ⟨c, rfl⟩ := fi_of h3
  obtain ⟨d, rfl⟩ := fi_of h4
  obtain ⟨e, rfl⟩ := fi_of h5
  exact (pig a b c d e).imp (congrArg fi) (Or.imp (congrArg fi) (Or.imp (congrArg fi) (Or.imp (congrArg fi) (Or.imp (congrArg fi) (Or.imp (congrArg fi) (Or.imp (congrArg fi) (Or.imp (congrArg fi) (Or.imp (congrArg fi) (congrArg fi)))))))))
theorem it_loop {T : List (Int × D)} {d : D} {i j : Nat} (hij : i < j) (e : it T i d = it T j d) (h : ∀ m, m ≤ j → (it T m d).isRef = true) : ∀ m, (it T m d).isRef = true := by
  intro m
  induction m using Nat.strongRecOn with
  | _ m ih =>
    by_cases hm : m ≤ j
    · exact h m hm
    · have e1 : m = j + (m - j) := by omega
      have e2 : i + (m - j) < m := by omega
      rw [e1, it_add, ← e, ← it_add]
      exact ih _ e2
theorem fetch_eq {T : List (Int × D)} {N : Nat} (hk : T.map (·.1) = ks N) (hN : N ≤ 4) : fetchK T 30 = lawF T 9 := by
  funext d
  by_cases h : ∀ m, m ≤ 5 → (it T m d).isRef = true
  · have hall : ∀ m, (it T m d).isRef = true := by
      obtain ⟨a, ha⟩ := ref_num (h 0 (by omega))
      obtain ⟨b, hb⟩ := ref_num (h 1 (by omega))
      obtain ⟨c, hc⟩ := ref_num (h 2 (by omega))
      obtain ⟨e, he⟩ := ref_num (h 3 (by omega))
      obtain ⟨f, hf⟩ := ref_num (h 4 (by omega))
      have k1 := step_key hk hN (by rw [← ha, ← it_succ]; exact h 1 (by omega))
      have k2 := step_key hk hN (by rw [← hb, ← it_succ]; exact h 2 (by omega))
      have k3 := step_key hk hN (by rw [← hc, ← it_succ]; exact h 3 (by omega))
      have k4 := step_key hk hN (by rw [← he, ← it_succ]; exact h 4 (by omega))
      have k5 := step_key hk hN (by rw [← hf, ← it_succ]; exact h 5 (by omega))
      rcases pigeon k1 k2 k3 k4 k5 with q | q | q | q | q | q | q | q | q | q
      · exact it_loop (i := 0) (j := 1) (by omega) (by rw [ha, hb, q]) fun m hm => h m (by omega)
      · exact it_loop (i := 0) (j := 2) (by omega) (by rw [ha, hc, q]) fun m hm => h m (by omega)
      · exact it_loop (i := 0) (j := 3) (by omega) (by rw [ha, he, q]) fun m hm => h m (by omega)
      · exact it_loop (i := 0) (j := 4) (by omega) (by rw [ha, hf, q]) fun m hm => h m (by omega)
      · exact it_loop (i := 1) (j := 2) (by omega) (by rw [hb, hc, q]) fun m hm => h m (by omega)
      · exact it_loop (i := 1) (j := 3) (by omega) (by rw [hb, he, q]) fun m hm => h m (by omega)
      · exact it_loop (i := 1) (j := 4) (by omega) (by rw [hb, hf, q]) fun m hm => h m (by omega)
      · exact it_loop (i := 2) (j := 3) (by omega) (by rw [hc, he, q]) fun m hm => h m (by omega)
      · exact it_loop (i := 2) (j := 4) (by omega) (by rw [hc, hf, q]) fun m hm => h m (by omega)
      · exact it_loop (i := 3) (j := 4) (by omega) (by rw [he, hf, q]) fun m hm => h m (by omega)
    rw [fetchK_all 30 d fun j _ => hall j, lawF_all 9 d fun j _ => hall j]
  · have first : ∀ n, (∃ m, m ≤ n ∧ (it T m d).isRef = false) → ∃ j, j ≤ n ∧ (it T j d).isRef = false ∧ ∀ i, i < j → (it T i d).isRef = true := by
      intro n
      induction n with
      | zero =>
        rintro ⟨m, hm, hr⟩
        obtain rfl : m = 0 := by omega
        exact ⟨0, Nat.le_refl _, hr, fun i hi => absurd hi (Nat.not_lt_zero i)⟩
      | succ n ih =>
        rintro ⟨m, hm, hr⟩
        by_cases hn : ∃ m, m ≤ n ∧ (it T m d).isRef = false
        · obtain ⟨j, h1, h2, h3⟩ := ih hn
          exact ⟨j, by omega, h2, h3⟩
        · refine ⟨m, hm, hr, fun i hi => ?_⟩
          cases hq : (it T i d).isRef with
          | true => rfl
          | false => exact absurd ⟨i, by omega, hq⟩ hn
    have hex : ∃ m, m ≤ 5 ∧ (it T m d).isRef = false := by
      refine Classical.byContradiction fun hno => h fun m hm => ?_
      cases hq : (it T m d).isRef with
      | true => rfl
      | false => exact absurd ⟨m, hm, hq⟩ hno
    obtain ⟨j, h1, h2, h3⟩ := first 5 hex
    rw [fetchK_at j 30 d (by omega) h2 h3, lawF_at j 9 d (by omega) h2 h3]

set_option maxRecDepth 100000
set_option maxHeartbeats 8000000

noncomputable def lawObj (w : World) : Obj := ((hd.heap_1 w.params).lookup 484).getD default
noncomputable def lawB (w : World) : List Stmt := match (lawObj w).data with
  | .func fd => (match fd.body with
    | .stmts b => b
    | _ => [])
  | _ => []
noncomputable def lawS (w : World) : Scope := match (lawObj w).data with
  | .func fd => fd.scope
  | _ => default
noncomputable def forBody : Stmt → List Stmt
  | .For _ _ b _ _ => b
  | _ => []
noncomputable def turnB (w : World) : List Stmt := match (lawB w) with
  | [_, _, _, f, _] => forBody f
  | _ => []
theorem sub_news {g h₀ h : Heap} {L : Addr} {news R : List (Addr × Obj)} (N : News h₀ L h news) (hgR : ∀ b o, g.get? b = some o → (b, o) ∈ R) (hs : ∀ x ∈ R, x ∈ news) : ∀ b o, g.get? b = some o → h.get? b = some o := fun b o e => (N _ (hs _ (hgR b o e))).1
noncomputable def IsCL (W : List (Addr × Obj)) (r : Value) : C → Prop
  | .none => W = [] ∧ r = .none
  | .bad => W = [] ∧ ∃ t, r = .str (Str.ofString "bad") t
  | .ns l => ∃ a vs n, W = [(a, listOf vs.toArray n)] ∧ r = .ref a ∧ IntsAre vs l ∧ l.length ≤ 64
theorem isCL_of {h₀ h h' : Heap} {L : Addr} {m : Str → Option Value} {news : List (Addr × Obj)} {r : Value} {c : C} (F : Fr h₀ L h m) (N : News h₀ L h' news) (i : IsC h' r c) (f : ∀ a, r = .ref a → h.get? a = none) : ∃ W, IsCL W r c ∧ News h₀ L h' (W ++ news) := by
  cases c with
  | none => exact ⟨[], ⟨rfl, i⟩, N⟩
  | bad => exact ⟨[], ⟨rfl, i⟩, N⟩
  | ns l =>
    obtain ⟨a, vs, n, rfl, h1, h2, h3⟩ := i
    refine ⟨_, ⟨a, vs, n, rfl, rfl, h2, h3⟩, fun p hp => ?_⟩
    rcases List.mem_cons.mp hp with rfl | hp
    · exact news1 F h1 (f a rfl) _ List.mem_cons_self
    · exact N p hp
theorem newsBut {h₀ h h' : Heap} {L : Addr} {l : List (Addr × Obj)} (N : News h₀ L h l) (b : But [L] h h') : News h₀ L h' l := fun p hp => ⟨b _ _ (N p hp).1 (by simp [(N p hp).2.1]), (N p hp).2⟩
theorem counts_law {w : World} {mean : ExcName → Option Value} {mg mb : Str → Option Value} {dp un : Nat} {gd : Option (List Code)} {cn : Str} {cs : Scope} {a : Addr} {ccd : Value} {cl : List (Str × Addr)} {outer : List Env} {A₀ : Around} {base h₀ : Heap} {L : Addr} {m : Str → Option Value} {s : Shared} {Q E : Value → Shared → Prop}
    (B : Below A₀ base outer h₀) (F : Fr h₀ L s.heap m) (X : (hd.heap_1 w.params).In h₀) (T : Top view (looseW view looseN) mean mg mb h₀) (hk : cs.kind = .function)
    {t : Addr} {v : Value} {T' : List (Int × D)} {d : D} {g : Heap} {news : List (Addr × Obj)}
    (N : News h₀ L s.heap news) (hg : ∀ b o, g.get? b = some o → s.heap.get? b = some o) (hs : IsTabL w g t T') (hv : IsD g v d)
    (hd : dp + 260 < recursionLimit) (hu : un + 260 < cLine)
    (ret : ∀ r h' tk' W, Fr h₀ L h' m → IsCL W r (cntD (lawF T' 9) d) → News h₀ L h' (W ++ news) → Q r { s with heap := h', toks := tk' }) :
    wpAny (model PySem.Challenge.rw_nn0123_01.row.prog w) (ktrTop dp un gd cn cs L a ccd cl outer) (call (.ref 465) [.ref t, v]) Q E s :=
  law_counts_ok B F X T hk News.nil hg hs hv (by omega) (by omega) fun r h' tk' F' b i f => by
    obtain ⟨W, h1, h2⟩ := isCL_of F (newsStay N b) i f
    exact ret r h' tk' W F' h1 h2
theorem heard_w_law {w : World} {mean : ExcName → Option Value} {mg mb : Str → Option Value} {dp un : Nat} {gd : Option (List Code)} {cn : Str} {cs : Scope} {a : Addr} {ccd : Value} {cl : List (Str × Addr)} {A₀ : Around} {base h₀ : Heap} {L : Addr} {m : Str → Option Value} {s : Shared} {Q E : Value → Shared → Prop}
    (B : Below A₀ base [] h₀) (F : Fr h₀ L s.heap m) (X : (hd.heap_1 w.params).In h₀) (T : Top view (looseW view looseN) mean mg mb h₀) (hk : cs.kind = .function) (XB : (hd.heap_1 w.params).In base) (TB : Top view (looseW view looseN) mean mg mb base)
    {sv : Value} {t : Addr} {T' : List (Int × D)} {H : List (Str × D)} {g : Heap} {news : List (Addr × Obj)}
    (N : News h₀ L s.heap news) (hg : ∀ b o, g.get? b = some o → s.heap.get? b = some o) (hsv : IsShelf w g sv T') (hh : IsHead w g t H)
    (hd : dp + 260 < recursionLimit) (hu : un + 260 < cLine)
    (ret : ∀ r h' tk' W, Fr h₀ L h' m → IsCL W r (widthsC (cntD (fetchK T' 30) (headAt H (Str.ofString "W")))) → News h₀ L h' (W ++ news) → Q r { s with heap := h', toks := tk' }) :
    wpAny (model PySem.Challenge.rw_nn0123_01.row.prog w) (ktrTop dp un gd cn cs L a ccd cl []) (call (.ref 479) [.ref 394, sv, .ref t]) Q E s :=
  heard_w_ok B F X T hk XB TB News.nil hg hsv hh (by omega) (by omega) fun r h' tk' F' b i f => by
    obtain ⟨W, h1, h2⟩ := isCL_of F (newsBut N b) i f
    exact ret r h' tk' W F' h1 h2
theorem heard_n_law {w : World} {mean : ExcName → Option Value} {mg mb : Str → Option Value} {dp un : Nat} {gd : Option (List Code)} {cn : Str} {cs : Scope} {a : Addr} {ccd : Value} {cl : List (Str × Addr)} {A₀ : Around} {base h₀ : Heap} {L : Addr} {m : Str → Option Value} {s : Shared} {Q E : Value → Shared → Prop}
    (B : Below A₀ base [] h₀) (F : Fr h₀ L s.heap m) (X : (hd.heap_1 w.params).In h₀) (T : Top view (looseW view looseN) mean mg mb h₀) (hk : cs.kind = .function) (XB : (hd.heap_1 w.params).In base) (TB : Top view (looseW view looseN) mean mg mb base)
    {sv : Value} {t : Addr} {T' : List (Int × D)} {H : List (Str × D)} {g : Heap} {news : List (Addr × Obj)}
    (N : News h₀ L s.heap news) (hg : ∀ b o, g.get? b = some o → s.heap.get? b = some o) (hsv : IsShelf w g sv T') (hh : IsHead w g t H)
    (hd : dp + 260 < recursionLimit) (hu : un + 260 < cLine)
    (ret : ∀ r h' tk' W, Fr h₀ L h' m → IsCL W r (numsC (cntD (fetchK T' 30) (headAt H (Str.ofString "Index"))) (fetchK T' 30 (headAt H (Str.ofString "Size")))) → News h₀ L h' (W ++ news) → Q r { s with heap := h', toks := tk' }) :
    wpAny (model PySem.Challenge.rw_nn0123_01.row.prog w) (ktrTop dp un gd cn cs L a ccd cl []) (call (.ref 479) [.ref 401, sv, .ref t]) Q E s :=
  heard_n_ok B F X T hk XB TB News.nil hg hsv hh (by omega) (by omega) fun r h' tk' F' b i f => by
    obtain ⟨W, h1, h2⟩ := isCL_of F (newsBut N b) i f
    exact ret r h' tk' W F' h1 h2
local macro_rules | `(tactic| kas_types) => `(tactic| exact sub_news (by assumption) (by assumption) (by intro x hx; repeat (first | exact hx | exact List.mem_append_left _ hx | exact List.mem_append_right _ hx | refine List.mem_cons_of_mem _ ?_)))
local macro_rules | `(tactic| walk_at "getMethod ref") => `(tactic| (k_here; k_dflt (refine' dget_mH ?F ?h ?_; (case h => assumption); (case F => kas_types))))
local macro_rules | `(tactic| walk_at "call builtin:dict.get") => `(tactic| (k_here; k_dflt (refine' dget_1H ?F ?h ?_; (case h => assumption); (case F => kas_types)); (intro v9 hv9; (try dsimp only))))

section
open SeqAt
variable {prog : Program} {w : World} {A : Around} {E Q : Value → Shared → Prop} {s : Shared} {D : Addr} {x b : Value}
local macro_rules | `(tactic| walk_at "nothing at all") => `(tactic| fail)
local macro_rules | `(tactic| walk_at "nothing at all") => `(tactic| fail)
theorem in_two {e0 e1 : Bool} (hl : s.heap.IsTuple D #[.none, b]) (hb : b ≠ .none) (h0 : EqAt A.in1 s .none x e0) (h1 : EqAt A.in1 s b x e1) (q : Q (.bool (e0 || e1)) s) : wpAny (model prog w) A (compareOp .In x (.ref D)) Q E s := by
  refine in_tupleAt (fun y => if y = .none then e0 else e1) hl (fun y hy => ?_) ?_
  · have : y = .none ∨ y = b := by simpa using hy
    rcases this with rfl | rfl
    · rw [if_pos rfl]; exact h0
    · rw [if_neg hb]; exact h1
  · simpa [hb] using q
end
theorem news_sub {h₀ h : Heap} {L : Addr} {l l' : List (Addr × Obj)} (N : News h₀ L h l) (hs : ∀ x ∈ l', x ∈ l) : News h₀ L h l' := fun x hx => N x (hs x hx)
theorem isList_of {h₀ h : Heap} {L a : Addr} {news : List (Addr × Obj)} {vs : List Value} {n : Nat} (N : News h₀ L h news) (hm : (a, listOf vs.toArray n) ∈ news) : h.IsList a vs.toArray := ⟨_, (N _ hm).1, rfl, _, rfl⟩
local macro_rules | `(tactic| walk_at "call ref") => `(tactic| refine holdAt 465 ?_)
local macro_rules | `(tactic| walk_at "call ref") => `(tactic| refine holdAt 479 ?_)
theorem g1_ok {w : World} {mean : ExcName → Option Value} {mg mb : Str → Option Value} {h₀ : Heap} {L fa : Addr} {cd : Value} {m : Str → Option Value} {s : Shared} {E : Value → Shared → Prop} {P : Shared → Prop} {g : Heap} {R : List (Addr × Obj)} {c5 c4 c3 c2 c1 : Obj} {t hd' : Addr} {sv : Value} {T' : List (Int × D)} {H : List (Str × D)}
    (B : Below callerA h₀ [] h₀) (F : Fr h₀ L s.heap m) (X : (hd.heap_1 w.params).In h₀) (T : Top view (looseW view looseN) mean mg mb h₀)
    (N : News h₀ L s.heap ((L + 5, c5) :: (L + 4, c4) :: (L + 3, c3) :: (L + 2, c2) :: (L + 1, c1) :: R)) (hgR : ∀ b o, g.get? b = some o → (b, o) ∈ R)
    (d4 : c4.data = .cell (some (.ref hd'))) (d2 : c2.data = .cell (some sv)) (d1 : c1.data = .cell (some (.ref t)))
    (hT : IsTabL w g t T') (hsv : IsShelf w g sv T') (hh : IsHead w g hd' H) (hFL : fetchK T' 30 = lawF T' 9)
    
    (ret : ∀ h' tk' m', Fr h₀ L h' m' → News h₀ L h' ((L + 5, c5) :: (L + 4, c4) :: (L + 3, c3) :: (L + 2, c2) :: (L + 1, c1) :: R) → m' (Str.ofString "rows") = m (Str.ofString "rows") → m' (Str.ofString "pen") = m (Str.ofString "pen") → P { s with heap := h', toks := tk' }) :
    wpAny (model PySem.Challenge.rw_nn0123_01.row.prog w) (callerA.deeper (envOfC (Str.ofString "law") (lawS w) L fa cd)) (execs (((turnB w).drop 4).take 3) (envOfC (Str.ofString "law") (lawS w) L fa cd)) (AtEnd P) E s := by
  revert X; k_fill; intro X
  have e1 : turnB w = [_, _, _, _, _, _, _, _, _, _, _, _, _, _, _, _] := rfl
  have e2 : lawS w = ⟨_, _, _, _, _⟩ := rfl
  rw [e1, e2]
  dsimp only [List.drop, List.take]
  clear e1 e2
  (try k_fold)
  (k_steps; repeat' ((refine Hold.mk ?_; first | ((with_reducible show wpAny _ _ (call (Value.ref 479) [Value.ref 401, _, _]) _ _ _); (refine' heard_n_law ?B ?F ?X ?T ?hk ?XB ?TB ?N ?hg ?hs ?hh ?hd ?hu ?_; (case B => k_asm); (case F => k_asm); (case X => k_asm); (case T => k_asm); (case hk => first | exact rfl | assumption); (case XB => k_asm); (case TB => k_asm); (case N => k_asm); (case hg => (exact sub_news (by assumption) (by assumption) (by intro zx zhx; repeat (first | exact zhx | exact List.mem_append_left _ zhx | exact List.mem_append_right _ zhx | refine List.mem_cons_of_mem _ ?_)))); (case hs => assumption); (case hh => assumption); (case hd => ktr_room); (case hu => ktr_units)); intro zr9 zh9 ztk9 zW9 zF9 zhr9 zN9; (try dsimp only); refine Hold.out ?_) | ((with_reducible show wpAny _ _ (call (Value.ref 479) [Value.ref 394, _, _]) _ _ _); (refine' heard_w_law ?B ?F ?X ?T ?hk ?XB ?TB ?N ?hg ?hs ?hh ?hd ?hu ?_; (case B => k_asm); (case F => k_asm); (case X => k_asm); (case T => k_asm); (case hk => first | exact rfl | assumption); (case XB => k_asm); (case TB => k_asm); (case N => k_asm); (case hg => (exact sub_news (by assumption) (by assumption) (by intro zx zhx; repeat (first | exact zhx | exact List.mem_append_left _ zhx | exact List.mem_append_right _ zhx | refine List.mem_cons_of_mem _ ?_)))); (case hs => assumption); (case hh => assumption); (case hd => ktr_room); (case hu => ktr_units)); intro zr9 zh9 ztk9 zW9 zF9 zhr9 zN9; (try dsimp only); refine Hold.out ?_) | ((with_reducible show wpAny _ _ (call (Value.ref 465) [_, _]) _ _ _); (refine' counts_law ?B ?F ?X ?T ?hk ?N ?hg ?hs ?hv ?hd ?hu ?_; (case B => k_asm); (case F => k_asm); (case X => k_asm); (case T => k_asm); (case hk => first | exact rfl | assumption); (case N => k_asm); (case hg => (exact sub_news (by assumption) (by assumption) (by intro zx zhx; repeat (first | exact zhx | exact List.mem_append_left _ zhx | exact List.mem_append_right _ zhx | refine List.mem_cons_of_mem _ ?_)))); (case hs => assumption); (case hv => assumption); (case hd => ktr_room); (case hu => ktr_units)); intro zr9 zh9 ztk9 zW9 zF9 zhr9 zN9; (try dsimp only); refine Hold.out ?_)); k_steps))
  unfold Hold
  rename IsCL _ _ _ => hr9
  generalize hcc : cntD (lawF T' 9) (headAt H (Str.ofString "W")) = c at hr9
  cases c with
  | none =>
    obtain ⟨rfl, rfl⟩ := hr9
    simp only [List.nil_append] at *
    (k_steps; repeat' ((refine Hold.mk ?_; first | ((with_reducible show wpAny _ _ (call (Value.ref 479) [Value.ref 401, _, _]) _ _ _); (refine' heard_n_law ?B ?F ?X ?T ?hk ?XB ?TB ?N ?hg ?hs ?hh ?hd ?hu ?_; (case B => k_asm); (case F => k_asm); (case X => k_asm); (case T => k_asm); (case hk => first | exact rfl | assumption); (case XB => k_asm); (case TB => k_asm); (case N => k_asm); (case hg => (exact sub_news (by assumption) (by assumption) (by intro zx zhx; repeat (first | exact zhx | exact List.mem_append_left _ zhx | exact List.mem_append_right _ zhx | refine List.mem_cons_of_mem _ ?_)))); (case hs => assumption); (case hh => assumption); (case hd => ktr_room); (case hu => ktr_units)); intro zr9 zh9 ztk9 zW9 zF9 zhr9 zN9; (try dsimp only); refine Hold.out ?_) | ((with_reducible show wpAny _ _ (call (Value.ref 479) [Value.ref 394, _, _]) _ _ _); (refine' heard_w_law ?B ?F ?X ?T ?hk ?XB ?TB ?N ?hg ?hs ?hh ?hd ?hu ?_; (case B => k_asm); (case F => k_asm); (case X => k_asm); (case T => k_asm); (case hk => first | exact rfl | assumption); (case XB => k_asm); (case TB => k_asm); (case N => k_asm); (case hg => (exact sub_news (by assumption) (by assumption) (by intro zx zhx; repeat (first | exact zhx | exact List.mem_append_left _ zhx | exact List.mem_append_right _ zhx | refine List.mem_cons_of_mem _ ?_)))); (case hs => assumption); (case hh => assumption); (case hd => ktr_room); (case hu => ktr_units)); intro zr9 zh9 ztk9 zW9 zF9 zhr9 zN9; (try dsimp only); refine Hold.out ?_) | ((with_reducible show wpAny _ _ (call (Value.ref 465) [_, _]) _ _ _); (refine' counts_law ?B ?F ?X ?T ?hk ?N ?hg ?hs ?hv ?hd ?hu ?_; (case B => k_asm); (case F => k_asm); (case X => k_asm); (case T => k_asm); (case hk => first | exact rfl | assumption); (case N => k_asm); (case hg => (exact sub_news (by assumption) (by assumption) (by intro zx zhx; repeat (first | exact zhx | exact List.mem_append_left _ zhx | exact List.mem_append_right _ zhx | refine List.mem_cons_of_mem _ ?_)))); (case hs => assumption); (case hv => assumption); (case hd => ktr_room); (case hu => ktr_units)); intro zr9 zh9 ztk9 zW9 zF9 zhr9 zN9; (try dsimp only); refine Hold.out ?_)); k_steps))
    refine in_two (b := .str (Str.ofString "bad") _) ⟨_, (news_here (by assumption) (by k_mem)), rfl, _, rfl⟩ (fun q => nomatch q) (.same _) (.str_none _ _) ?_
    (k_steps; repeat' ((refine Hold.mk ?_; first | ((with_reducible show wpAny _ _ (call (Value.ref 479) [Value.ref 401, _, _]) _ _ _); (refine' heard_n_law ?B ?F ?X ?T ?hk ?XB ?TB ?N ?hg ?hs ?hh ?hd ?hu ?_; (case B => k_asm); (case F => k_asm); (case X => k_asm); (case T => k_asm); (case hk => first | exact rfl | assumption); (case XB => k_asm); (case TB => k_asm); (case N => k_asm); (case hg => (exact sub_news (by assumption) (by assumption) (by intro zx zhx; repeat (first | exact zhx | exact List.mem_append_left _ zhx | exact List.mem_append_right _ zhx | refine List.mem_cons_of_mem _ ?_)))); (case hs => assumption); (case hh => assumption); (case hd => ktr_room); (case hu => ktr_units)); intro zr9 zh9 ztk9 zW9 zF9 zhr9 zN9; (try dsimp only); refine Hold.out ?_) | ((with_reducible show wpAny _ _ (call (Value.ref 479) [Value.ref 394, _, _]) _ _ _); (refine' heard_w_law ?B ?F ?X ?T ?hk ?XB ?TB ?N ?hg ?hs ?hh ?hd ?hu ?_; (case B => k_asm); (case F => k_asm); (case X => k_asm); (case T => k_asm); (case hk => first | exact rfl | assumption); (case XB => k_asm); (case TB => k_asm); (case N => k_asm); (case hg => (exact sub_news (by assumption) (by assumption) (by intro zx zhx; repeat (first | exact zhx | exact List.mem_append_left _ zhx | exact List.mem_append_right _ zhx | refine List.mem_cons_of_mem _ ?_)))); (case hs => assumption); (case hh => assumption); (case hd => ktr_room); (case hu => ktr_units)); intro zr9 zh9 ztk9 zW9 zF9 zhr9 zN9; (try dsimp only); refine Hold.out ?_) | ((with_reducible show wpAny _ _ (call (Value.ref 465) [_, _]) _ _ _); (refine' counts_law ?B ?F ?X ?T ?hk ?N ?hg ?hs ?hv ?hd ?hu ?_; (case B => k_asm); (case F => k_asm); (case X => k_asm); (case T => k_asm); (case hk => first | exact rfl | assumption); (case N => k_asm); (case hg => (exact sub_news (by assumption) (by assumption) (by intro zx zhx; repeat (first | exact zhx | exact List.mem_append_left _ zhx | exact List.mem_append_right _ zhx | refine List.mem_cons_of_mem _ ?_)))); (case hs => assumption); (case hv => assumption); (case hd => ktr_room); (case hu => ktr_units)); intro zr9 zh9 ztk9 zW9 zF9 zhr9 zN9; (try dsimp only); refine Hold.out ?_)); k_steps))
    unfold Hold
    rename IsCL _ _ (widthsC _) => hr
    rw [hFL, hcc] at hr
    obtain ⟨rfl, t8, rfl⟩ := hr
    simp only [List.nil_append] at *
    (k_steps; repeat' ((refine Hold.mk ?_; first | ((with_reducible show wpAny _ _ (call (Value.ref 479) [Value.ref 401, _, _]) _ _ _); (refine' heard_n_law ?B ?F ?X ?T ?hk ?XB ?TB ?N ?hg ?hs ?hh ?hd ?hu ?_; (case B => k_asm); (case F => k_asm); (case X => k_asm); (case T => k_asm); (case hk => first | exact rfl | assumption); (case XB => k_asm); (case TB => k_asm); (case N => k_asm); (case hg => (exact sub_news (by assumption) (by assumption) (by intro zx zhx; repeat (first | exact zhx | exact List.mem_append_left _ zhx | exact List.mem_append_right _ zhx | refine List.mem_cons_of_mem _ ?_)))); (case hs => assumption); (case hh => assumption); (case hd => ktr_room); (case hu => ktr_units)); intro zr9 zh9 ztk9 zW9 zF9 zhr9 zN9; (try dsimp only); refine Hold.out ?_) | ((with_reducible show wpAny _ _ (call (Value.ref 479) [Value.ref 394, _, _]) _ _ _); (refine' heard_w_law ?B ?F ?X ?T ?hk ?XB ?TB ?N ?hg ?hs ?hh ?hd ?hu ?_; (case B => k_asm); (case F => k_asm); (case X => k_asm); (case T => k_asm); (case hk => first | exact rfl | assumption); (case XB => k_asm); (case TB => k_asm); (case N => k_asm); (case hg => (exact sub_news (by assumption) (by assumption) (by intro zx zhx; repeat (first | exact zhx | exact List.mem_append_left _ zhx | exact List.mem_append_right _ zhx | refine List.mem_cons_of_mem _ ?_)))); (case hs => assumption); (case hh => assumption); (case hd => ktr_room); (case hu => ktr_units)); intro zr9 zh9 ztk9 zW9 zF9 zhr9 zN9; (try dsimp only); refine Hold.out ?_) | ((with_reducible show wpAny _ _ (call (Value.ref 465) [_, _]) _ _ _); (refine' counts_law ?B ?F ?X ?T ?hk ?N ?hg ?hs ?hv ?hd ?hu ?_; (case B => k_asm); (case F => k_asm); (case X => k_asm); (case T => k_asm); (case hk => first | exact rfl | assumption); (case N => k_asm); (case hg => (exact sub_news (by assumption) (by assumption) (by intro zx zhx; repeat (first | exact zhx | exact List.mem_append_left _ zhx | exact List.mem_append_right _ zhx | refine List.mem_cons_of_mem _ ?_)))); (case hs => assumption); (case hv => assumption); (case hd => ktr_room); (case hu => ktr_units)); intro zr9 zh9 ztk9 zW9 zF9 zhr9 zN9; (try dsimp only); refine Hold.out ?_)); k_steps))
    unfold AtEnd
    dsimp only [Hold]
    exact ret _ _ _ (by assumption) (news_sub (by assumption) (by intro x hx; repeat (first | exact hx | exact List.mem_append_left _ hx | exact List.mem_append_right _ hx | refine List.mem_cons_of_mem _ ?_))) (by rfl) (by rfl)
  | bad =>
    obtain ⟨rfl, t9, rfl⟩ := hr9
    simp only [List.nil_append] at *
    (k_steps; repeat' ((refine Hold.mk ?_; first | ((with_reducible show wpAny _ _ (call (Value.ref 479) [Value.ref 401, _, _]) _ _ _); (refine' heard_n_law ?B ?F ?X ?T ?hk ?XB ?TB ?N ?hg ?hs ?hh ?hd ?hu ?_; (case B => k_asm); (case F => k_asm); (case X => k_asm); (case T => k_asm); (case hk => first | exact rfl | assumption); (case XB => k_asm); (case TB => k_asm); (case N => k_asm); (case hg => (exact sub_news (by assumption) (by assumption) (by intro zx zhx; repeat (first | exact zhx | exact List.mem_append_left _ zhx | exact List.mem_append_right _ zhx | refine List.mem_cons_of_mem _ ?_)))); (case hs => assumption); (case hh => assumption); (case hd => ktr_room); (case hu => ktr_units)); intro zr9 zh9 ztk9 zW9 zF9 zhr9 zN9; (try dsimp only); refine Hold.out ?_) | ((with_reducible show wpAny _ _ (call (Value.ref 479) [Value.ref 394, _, _]) _ _ _); (refine' heard_w_law ?B ?F ?X ?T ?hk ?XB ?TB ?N ?hg ?hs ?hh ?hd ?hu ?_; (case B => k_asm); (case F => k_asm); (case X => k_asm); (case T => k_asm); (case hk => first | exact rfl | assumption); (case XB => k_asm); (case TB => k_asm); (case N => k_asm); (case hg => (exact sub_news (by assumption) (by assumption) (by intro zx zhx; repeat (first | exact zhx | exact List.mem_append_left _ zhx | exact List.mem_append_right _ zhx | refine List.mem_cons_of_mem _ ?_)))); (case hs => assumption); (case hh => assumption); (case hd => ktr_room); (case hu => ktr_units)); intro zr9 zh9 ztk9 zW9 zF9 zhr9 zN9; (try dsimp only); refine Hold.out ?_) | ((with_reducible show wpAny _ _ (call (Value.ref 465) [_, _]) _ _ _); (refine' counts_law ?B ?F ?X ?T ?hk ?N ?hg ?hs ?hv ?hd ?hu ?_; (case B => k_asm); (case F => k_asm); (case X => k_asm); (case T => k_asm); (case hk => first | exact rfl | assumption); (case N => k_asm); (case hg => (exact sub_news (by assumption) (by assumption) (by intro zx zhx; repeat (first | exact zhx | exact List.mem_append_left _ zhx | exact List.mem_append_right _ zhx | refine List.mem_cons_of_mem _ ?_)))); (case hs => assumption); (case hv => assumption); (case hd => ktr_room); (case hu => ktr_units)); intro zr9 zh9 ztk9 zW9 zF9 zhr9 zN9; (try dsimp only); refine Hold.out ?_)); k_steps))
    refine in_two (b := .str (Str.ofString "bad") _) ⟨_, (news_here (by assumption) (by k_mem)), rfl, _, rfl⟩ (fun q => nomatch q) (.none_str _ _) (.str_str _ _ _ _) ?_
    (k_steps; repeat' ((refine Hold.mk ?_; first | ((with_reducible show wpAny _ _ (call (Value.ref 479) [Value.ref 401, _, _]) _ _ _); (refine' heard_n_law ?B ?F ?X ?T ?hk ?XB ?TB ?N ?hg ?hs ?hh ?hd ?hu ?_; (case B => k_asm); (case F => k_asm); (case X => k_asm); (case T => k_asm); (case hk => first | exact rfl | assumption); (case XB => k_asm); (case TB => k_asm); (case N => k_asm); (case hg => (exact sub_news (by assumption) (by assumption) (by intro zx zhx; repeat (first | exact zhx | exact List.mem_append_left _ zhx | exact List.mem_append_right _ zhx | refine List.mem_cons_of_mem _ ?_)))); (case hs => assumption); (case hh => assumption); (case hd => ktr_room); (case hu => ktr_units)); intro zr9 zh9 ztk9 zW9 zF9 zhr9 zN9; (try dsimp only); refine Hold.out ?_) | ((with_reducible show wpAny _ _ (call (Value.ref 479) [Value.ref 394, _, _]) _ _ _); (refine' heard_w_law ?B ?F ?X ?T ?hk ?XB ?TB ?N ?hg ?hs ?hh ?hd ?hu ?_; (case B => k_asm); (case F => k_asm); (case X => k_asm); (case T => k_asm); (case hk => first | exact rfl | assumption); (case XB => k_asm); (case TB => k_asm); (case N => k_asm); (case hg => (exact sub_news (by assumption) (by assumption) (by intro zx zhx; repeat (first | exact zhx | exact List.mem_append_left _ zhx | exact List.mem_append_right _ zhx | refine List.mem_cons_of_mem _ ?_)))); (case hs => assumption); (case hh => assumption); (case hd => ktr_room); (case hu => ktr_units)); intro zr9 zh9 ztk9 zW9 zF9 zhr9 zN9; (try dsimp only); refine Hold.out ?_) | ((with_reducible show wpAny _ _ (call (Value.ref 465) [_, _]) _ _ _); (refine' counts_law ?B ?F ?X ?T ?hk ?N ?hg ?hs ?hv ?hd ?hu ?_; (case B => k_asm); (case F => k_asm); (case X => k_asm); (case T => k_asm); (case hk => first | exact rfl | assumption); (case N => k_asm); (case hg => (exact sub_news (by assumption) (by assumption) (by intro zx zhx; repeat (first | exact zhx | exact List.mem_append_left _ zhx | exact List.mem_append_right _ zhx | refine List.mem_cons_of_mem _ ?_)))); (case hs => assumption); (case hv => assumption); (case hd => ktr_room); (case hu => ktr_units)); intro zr9 zh9 ztk9 zW9 zF9 zhr9 zN9; (try dsimp only); refine Hold.out ?_)); k_steps))
    unfold Hold
    rename IsCL _ _ (widthsC _) => hr
    rw [hFL, hcc] at hr
    obtain ⟨rfl, t8, rfl⟩ := hr
    simp only [List.nil_append] at *
    (k_steps; repeat' ((refine Hold.mk ?_; first | ((with_reducible show wpAny _ _ (call (Value.ref 479) [Value.ref 401, _, _]) _ _ _); (refine' heard_n_law ?B ?F ?X ?T ?hk ?XB ?TB ?N ?hg ?hs ?hh ?hd ?hu ?_; (case B => k_asm); (case F => k_asm); (case X => k_asm); (case T => k_asm); (case hk => first | exact rfl | assumption); (case XB => k_asm); (case TB => k_asm); (case N => k_asm); (case hg => (exact sub_news (by assumption) (by assumption) (by intro zx zhx; repeat (first | exact zhx | exact List.mem_append_left _ zhx | exact List.mem_append_right _ zhx | refine List.mem_cons_of_mem _ ?_)))); (case hs => assumption); (case hh => assumption); (case hd => ktr_room); (case hu => ktr_units)); intro zr9 zh9 ztk9 zW9 zF9 zhr9 zN9; (try dsimp only); refine Hold.out ?_) | ((with_reducible show wpAny _ _ (call (Value.ref 479) [Value.ref 394, _, _]) _ _ _); (refine' heard_w_law ?B ?F ?X ?T ?hk ?XB ?TB ?N ?hg ?hs ?hh ?hd ?hu ?_; (case B => k_asm); (case F => k_asm); (case X => k_asm); (case T => k_asm); (case hk => first | exact rfl | assumption); (case XB => k_asm); (case TB => k_asm); (case N => k_asm); (case hg => (exact sub_news (by assumption) (by assumption) (by intro zx zhx; repeat (first | exact zhx | exact List.mem_append_left _ zhx | exact List.mem_append_right _ zhx | refine List.mem_cons_of_mem _ ?_)))); (case hs => assumption); (case hh => assumption); (case hd => ktr_room); (case hu => ktr_units)); intro zr9 zh9 ztk9 zW9 zF9 zhr9 zN9; (try dsimp only); refine Hold.out ?_) | ((with_reducible show wpAny _ _ (call (Value.ref 465) [_, _]) _ _ _); (refine' counts_law ?B ?F ?X ?T ?hk ?N ?hg ?hs ?hv ?hd ?hu ?_; (case B => k_asm); (case F => k_asm); (case X => k_asm); (case T => k_asm); (case hk => first | exact rfl | assumption); (case N => k_asm); (case hg => (exact sub_news (by assumption) (by assumption) (by intro zx zhx; repeat (first | exact zhx | exact List.mem_append_left _ zhx | exact List.mem_append_right _ zhx | refine List.mem_cons_of_mem _ ?_)))); (case hs => assumption); (case hv => assumption); (case hd => ktr_room); (case hu => ktr_units)); intro zr9 zh9 ztk9 zW9 zF9 zhr9 zN9; (try dsimp only); refine Hold.out ?_)); k_steps))
    unfold AtEnd
    dsimp only [Hold]
    exact ret _ _ _ (by assumption) (news_sub (by assumption) (by intro x hx; repeat (first | exact hx | exact List.mem_append_left _ hx | exact List.mem_append_right _ hx | refine List.mem_cons_of_mem _ ?_))) (by rfl) (by rfl)
  | ns l =>
    obtain ⟨a9, vs9, n9, rfl, rfl, hi9, hl9⟩ := hr9
    simp only [List.cons_append, List.nil_append] at *
    have hlen := hi9.length
    (k_steps; repeat' ((refine Hold.mk ?_; first | ((with_reducible show wpAny _ _ (call (Value.ref 479) [Value.ref 401, _, _]) _ _ _); (refine' heard_n_law ?B ?F ?X ?T ?hk ?XB ?TB ?N ?hg ?hs ?hh ?hd ?hu ?_; (case B => k_asm); (case F => k_asm); (case X => k_asm); (case T => k_asm); (case hk => first | exact rfl | assumption); (case XB => k_asm); (case TB => k_asm); (case N => k_asm); (case hg => (exact sub_news (by assumption) (by assumption) (by intro zx zhx; repeat (first | exact zhx | exact List.mem_append_left _ zhx | exact List.mem_append_right _ zhx | refine List.mem_cons_of_mem _ ?_)))); (case hs => assumption); (case hh => assumption); (case hd => ktr_room); (case hu => ktr_units)); intro zr9 zh9 ztk9 zW9 zF9 zhr9 zN9; (try dsimp only); refine Hold.out ?_) | ((with_reducible show wpAny _ _ (call (Value.ref 479) [Value.ref 394, _, _]) _ _ _); (refine' heard_w_law ?B ?F ?X ?T ?hk ?XB ?TB ?N ?hg ?hs ?hh ?hd ?hu ?_; (case B => k_asm); (case F => k_asm); (case X => k_asm); (case T => k_asm); (case hk => first | exact rfl | assumption); (case XB => k_asm); (case TB => k_asm); (case N => k_asm); (case hg => (exact sub_news (by assumption) (by assumption) (by intro zx zhx; repeat (first | exact zhx | exact List.mem_append_left _ zhx | exact List.mem_append_right _ zhx | refine List.mem_cons_of_mem _ ?_)))); (case hs => assumption); (case hh => assumption); (case hd => ktr_room); (case hu => ktr_units)); intro zr9 zh9 ztk9 zW9 zF9 zhr9 zN9; (try dsimp only); refine Hold.out ?_) | ((with_reducible show wpAny _ _ (call (Value.ref 465) [_, _]) _ _ _); (refine' counts_law ?B ?F ?X ?T ?hk ?N ?hg ?hs ?hv ?hd ?hu ?_; (case B => k_asm); (case F => k_asm); (case X => k_asm); (case T => k_asm); (case hk => first | exact rfl | assumption); (case N => k_asm); (case hg => (exact sub_news (by assumption) (by assumption) (by intro zx zhx; repeat (first | exact zhx | exact List.mem_append_left _ zhx | exact List.mem_append_right _ zhx | refine List.mem_cons_of_mem _ ?_)))); (case hs => assumption); (case hv => assumption); (case hd => ktr_room); (case hu => ktr_units)); intro zr9 zh9 ztk9 zW9 zF9 zhr9 zN9; (try dsimp only); refine Hold.out ?_)); k_steps))
    have hlq : Heap.IsList _ a9 vs9.toArray := isList_of (by assumption) (by k_mem)
    refine in_two (b := .str (Str.ofString "bad") _) ⟨_, (news_here (by assumption) (by k_mem)), rfl, _, rfl⟩ (fun q => nomatch q) (.none_list hlq (by ktr_units)) (.str_list _ _ hlq (by ktr_units)) ?_
    (k_steps; repeat' ((refine Hold.mk ?_; first | ((with_reducible show wpAny _ _ (call (Value.ref 479) [Value.ref 401, _, _]) _ _ _); (refine' heard_n_law ?B ?F ?X ?T ?hk ?XB ?TB ?N ?hg ?hs ?hh ?hd ?hu ?_; (case B => k_asm); (case F => k_asm); (case X => k_asm); (case T => k_asm); (case hk => first | exact rfl | assumption); (case XB => k_asm); (case TB => k_asm); (case N => k_asm); (case hg => (exact sub_news (by assumption) (by assumption) (by intro zx zhx; repeat (first | exact zhx | exact List.mem_append_left _ zhx | exact List.mem_append_right _ zhx | refine List.mem_cons_of_mem _ ?_)))); (case hs => assumption); (case hh => assumption); (case hd => ktr_room); (case hu => ktr_units)); intro zr9 zh9 ztk9 zW9 zF9 zhr9 zN9; (try dsimp only); refine Hold.out ?_) | ((with_reducible show wpAny _ _ (call (Value.ref 479) [Value.ref 394, _, _]) _ _ _); (refine' heard_w_law ?B ?F ?X ?T ?hk ?XB ?TB ?N ?hg ?hs ?hh ?hd ?hu ?_; (case B => k_asm); (case F => k_asm); (case X => k_asm); (case T => k_asm); (case hk => first | exact rfl | assumption); (case XB => k_asm); (case TB => k_asm); (case N => k_asm); (case hg => (exact sub_news (by assumption) (by assumption) (by intro zx zhx; repeat (first | exact zhx | exact List.mem_append_left _ zhx | exact List.mem_append_right _ zhx | refine List.mem_cons_of_mem _ ?_)))); (case hs => assumption); (case hh => assumption); (case hd => ktr_room); (case hu => ktr_units)); intro zr9 zh9 ztk9 zW9 zF9 zhr9 zN9; (try dsimp only); refine Hold.out ?_) | ((with_reducible show wpAny _ _ (call (Value.ref 465) [_, _]) _ _ _); (refine' counts_law ?B ?F ?X ?T ?hk ?N ?hg ?hs ?hv ?hd ?hu ?_; (case B => k_asm); (case F => k_asm); (case X => k_asm); (case T => k_asm); (case hk => first | exact rfl | assumption); (case N => k_asm); (case hg => (exact sub_news (by assumption) (by assumption) (by intro zx zhx; repeat (first | exact zhx | exact List.mem_append_left _ zhx | exact List.mem_append_right _ zhx | refine List.mem_cons_of_mem _ ?_)))); (case hs => assumption); (case hv => assumption); (case hd => ktr_room); (case hu => ktr_units)); intro zr9 zh9 ztk9 zW9 zF9 zhr9 zN9; (try dsimp only); refine Hold.out ?_)); k_steps))
    · unfold Hold
      rename IsCL _ _ (widthsC _) => hr
      rw [hFL, hcc, widthsC_bad (by rintro ⟨h1, _⟩; omega)] at hr
      obtain ⟨rfl, t8, rfl⟩ := hr
      simp only [List.nil_append] at *
      (k_steps; repeat' ((refine Hold.mk ?_; first | ((with_reducible show wpAny _ _ (call (Value.ref 479) [Value.ref 401, _, _]) _ _ _); (refine' heard_n_law ?B ?F ?X ?T ?hk ?XB ?TB ?N ?hg ?hs ?hh ?hd ?hu ?_; (case B => k_asm); (case F => k_asm); (case X => k_asm); (case T => k_asm); (case hk => first | exact rfl | assumption); (case XB => k_asm); (case TB => k_asm); (case N => k_asm); (case hg => (exact sub_news (by assumption) (by assumption) (by intro zx zhx; repeat (first | exact zhx | exact List.mem_append_left _ zhx | exact List.mem_append_right _ zhx | refine List.mem_cons_of_mem _ ?_)))); (case hs => assumption); (case hh => assumption); (case hd => ktr_room); (case hu => ktr_units)); intro zr9 zh9 ztk9 zW9 zF9 zhr9 zN9; (try dsimp only); refine Hold.out ?_) | ((with_reducible show wpAny _ _ (call (Value.ref 479) [Value.ref 394, _, _]) _ _ _); (refine' heard_w_law ?B ?F ?X ?T ?hk ?XB ?TB ?N ?hg ?hs ?hh ?hd ?hu ?_; (case B => k_asm); (case F => k_asm); (case X => k_asm); (case T => k_asm); (case hk => first | exact rfl | assumption); (case XB => k_asm); (case TB => k_asm); (case N => k_asm); (case hg => (exact sub_news (by assumption) (by assumption) (by intro zx zhx; repeat (first | exact zhx | exact List.mem_append_left _ zhx | exact List.mem_append_right _ zhx | refine List.mem_cons_of_mem _ ?_)))); (case hs => assumption); (case hh => assumption); (case hd => ktr_room); (case hu => ktr_units)); intro zr9 zh9 ztk9 zW9 zF9 zhr9 zN9; (try dsimp only); refine Hold.out ?_) | ((with_reducible show wpAny _ _ (call (Value.ref 465) [_, _]) _ _ _); (refine' counts_law ?B ?F ?X ?T ?hk ?N ?hg ?hs ?hv ?hd ?hu ?_; (case B => k_asm); (case F => k_asm); (case X => k_asm); (case T => k_asm); (case hk => first | exact rfl | assumption); (case N => k_asm); (case hg => (exact sub_news (by assumption) (by assumption) (by intro zx zhx; repeat (first | exact zhx | exact List.mem_append_left _ zhx | exact List.mem_append_right _ zhx | refine List.mem_cons_of_mem _ ?_)))); (case hs => assumption); (case hv => assumption); (case hd => ktr_room); (case hu => ktr_units)); intro zr9 zh9 ztk9 zW9 zF9 zhr9 zN9; (try dsimp only); refine Hold.out ?_)); k_steps))
      unfold AtEnd
      dsimp only [Hold]
      exact ret _ _ _ (by assumption) (news_sub (by assumption) (by intro x hx; repeat (first | exact hx | exact List.mem_append_left _ hx | exact List.mem_append_right _ hx | refine List.mem_cons_of_mem _ ?_))) (by rfl) (by rfl)
    · unfold Hold
      rename IsCL _ _ (widthsC _) => hr
      rw [hFL, hcc, widthsC_bad (by rintro ⟨_, h1⟩; have := h1 _ (by assumption); omega)] at hr
      obtain ⟨rfl, t8, rfl⟩ := hr
      simp only [List.nil_append] at *
      (k_steps; repeat' ((refine Hold.mk ?_; first | ((with_reducible show wpAny _ _ (call (Value.ref 479) [Value.ref 401, _, _]) _ _ _); (refine' heard_n_law ?B ?F ?X ?T ?hk ?XB ?TB ?N ?hg ?hs ?hh ?hd ?hu ?_; (case B => k_asm); (case F => k_asm); (case X => k_asm); (case T => k_asm); (case hk => first | exact rfl | assumption); (case XB => k_asm); (case TB => k_asm); (case N => k_asm); (case hg => (exact sub_news (by assumption) (by assumption) (by intro zx zhx; repeat (first | exact zhx | exact List.mem_append_left _ zhx | exact List.mem_append_right _ zhx | refine List.mem_cons_of_mem _ ?_)))); (case hs => assumption); (case hh => assumption); (case hd => ktr_room); (case hu => ktr_units)); intro zr9 zh9 ztk9 zW9 zF9 zhr9 zN9; (try dsimp only); refine Hold.out ?_) | ((with_reducible show wpAny _ _ (call (Value.ref 479) [Value.ref 394, _, _]) _ _ _); (refine' heard_w_law ?B ?F ?X ?T ?hk ?XB ?TB ?N ?hg ?hs ?hh ?hd ?hu ?_; (case B => k_asm); (case F => k_asm); (case X => k_asm); (case T => k_asm); (case hk => first | exact rfl | assumption); (case XB => k_asm); (case TB => k_asm); (case N => k_asm); (case hg => (exact sub_news (by assumption) (by assumption) (by intro zx zhx; repeat (first | exact zhx | exact List.mem_append_left _ zhx | exact List.mem_append_right _ zhx | refine List.mem_cons_of_mem _ ?_)))); (case hs => assumption); (case hh => assumption); (case hd => ktr_room); (case hu => ktr_units)); intro zr9 zh9 ztk9 zW9 zF9 zhr9 zN9; (try dsimp only); refine Hold.out ?_) | ((with_reducible show wpAny _ _ (call (Value.ref 465) [_, _]) _ _ _); (refine' counts_law ?B ?F ?X ?T ?hk ?N ?hg ?hs ?hv ?hd ?hu ?_; (case B => k_asm); (case F => k_asm); (case X => k_asm); (case T => k_asm); (case hk => first | exact rfl | assumption); (case N => k_asm); (case hg => (exact sub_news (by assumption) (by assumption) (by intro zx zhx; repeat (first | exact zhx | exact List.mem_append_left _ zhx | exact List.mem_append_right _ zhx | refine List.mem_cons_of_mem _ ?_)))); (case hs => assumption); (case hv => assumption); (case hd => ktr_room); (case hu => ktr_units)); intro zr9 zh9 ztk9 zW9 zF9 zhr9 zN9; (try dsimp only); refine Hold.out ?_)); k_steps))
      unfold AtEnd
      dsimp only [Hold]
      exact ret _ _ _ (by assumption) (news_sub (by assumption) (by intro x hx; repeat (first | exact hx | exact List.mem_append_left _ hx | exact List.mem_append_right _ hx | refine List.mem_cons_of_mem _ ?_))) (by rfl) (by rfl)
    · unfold Hold
      rename IsCL _ _ (widthsC _) => hr
      rename ∀ a, a ∈ l → a ≤ _ => hM2
      rw [hFL, hcc, widthsC_ok ⟨by omega, fun x hx => by have := hM2 x hx; omega⟩] at hr
      obtain ⟨a8, vs8, n8, rfl, rfl, hi8, hl8⟩ := hr
      simp only [List.cons_append, List.nil_append] at *
      (k_steps; repeat' ((refine Hold.mk ?_; first | ((with_reducible show wpAny _ _ (call (Value.ref 479) [Value.ref 401, _, _]) _ _ _); (refine' heard_n_law ?B ?F ?X ?T ?hk ?XB ?TB ?N ?hg ?hs ?hh ?hd ?hu ?_; (case B => k_asm); (case F => k_asm); (case X => k_asm); (case T => k_asm); (case hk => first | exact rfl | assumption); (case XB => k_asm); (case TB => k_asm); (case N => k_asm); (case hg => (exact sub_news (by assumption) (by assumption) (by intro zx zhx; repeat (first | exact zhx | exact List.mem_append_left _ zhx | exact List.mem_append_right _ zhx | refine List.mem_cons_of_mem _ ?_)))); (case hs => assumption); (case hh => assumption); (case hd => ktr_room); (case hu => ktr_units)); intro zr9 zh9 ztk9 zW9 zF9 zhr9 zN9; (try dsimp only); refine Hold.out ?_) | ((with_reducible show wpAny _ _ (call (Value.ref 479) [Value.ref 394, _, _]) _ _ _); (refine' heard_w_law ?B ?F ?X ?T ?hk ?XB ?TB ?N ?hg ?hs ?hh ?hd ?hu ?_; (case B => k_asm); (case F => k_asm); (case X => k_asm); (case T => k_asm); (case hk => first | exact rfl | assumption); (case XB => k_asm); (case TB => k_asm); (case N => k_asm); (case hg => (exact sub_news (by assumption) (by assumption) (by intro zx zhx; repeat (first | exact zhx | exact List.mem_append_left _ zhx | exact List.mem_append_right _ zhx | refine List.mem_cons_of_mem _ ?_)))); (case hs => assumption); (case hh => assumption); (case hd => ktr_room); (case hu => ktr_units)); intro zr9 zh9 ztk9 zW9 zF9 zhr9 zN9; (try dsimp only); refine Hold.out ?_) | ((with_reducible show wpAny _ _ (call (Value.ref 465) [_, _]) _ _ _); (refine' counts_law ?B ?F ?X ?T ?hk ?N ?hg ?hs ?hv ?hd ?hu ?_; (case B => k_asm); (case F => k_asm); (case X => k_asm); (case T => k_asm); (case hk => first | exact rfl | assumption); (case N => k_asm); (case hg => (exact sub_news (by assumption) (by assumption) (by intro zx zhx; repeat (first | exact zhx | exact List.mem_append_left _ zhx | exact List.mem_append_right _ zhx | refine List.mem_cons_of_mem _ ?_)))); (case hs => assumption); (case hv => assumption); (case hd => ktr_room); (case hu => ktr_units)); intro zr9 zh9 ztk9 zW9 zF9 zhr9 zN9; (try dsimp only); refine Hold.out ?_)); k_steps))
      unfold AtEnd
      dsimp only [Hold]
      exact ret _ _ _ (by assumption) (news_sub (by assumption) (by intro x hx; repeat (first | exact hx | exact List.mem_append_left _ hx | exact List.mem_append_right _ hx | refine List.mem_cons_of_mem _ ?_))) (by rfl) (by rfl)

set_option maxRecDepth 100000
set_option maxHeartbeats 8000000
theorem ne_list_str {prog : Program} {w : World} {A : Around} {E Q : Value → Shared → Prop} {s : Shared} {a : Addr} {items : Array Value} {b : Str} {u : Tok} (hl : s.heap.IsList a items) (hu : A.units < cLine) (q : Q (.bool true) s) : wpAny (model prog w) A (compareOp .NotEq (.ref a) (.str b u)) Q E s := SeqAt.RcNeAt.list_str b u hl hu prog w E Q q
local macro_rules | `(tactic| walk_at "compareOp NotEq ref str") => `(tactic| (k_here; refine ne_list_str (isList_of (by assumption) (by k_mem)) (by ktr_units) ?_))
theorem g2_ok {w : World} {mean : ExcName → Option Value} {mg mb : Str → Option Value} {h₀ : Heap} {L fa : Addr} {cd : Value} {m : Str → Option Value} {s : Shared} {E : Value → Shared → Prop} {P : Shared → Prop} {g : Heap} {R : List (Addr × Obj)} {c5 c4 c3 c2 c1 : Obj} {t hd' : Addr} {sv : Value} {T' : List (Int × D)} {H : List (Str × D)}
    (B : Below callerA h₀ [] h₀) (F : Fr h₀ L s.heap m) (X : (hd.heap_1 w.params).In h₀) (T : Top view (looseW view looseN) mean mg mb h₀)
    (N : News h₀ L s.heap ((L + 5, c5) :: (L + 4, c4) :: (L + 3, c3) :: (L + 2, c2) :: (L + 1, c1) :: R)) (hgR : ∀ b o, g.get? b = some o → (b, o) ∈ R)
    (d4 : c4.data = .cell (some (.ref hd'))) (d2 : c2.data = .cell (some sv)) (d1 : c1.data = .cell (some (.ref t)))
    (hT : IsTabL w g t T') (hsv : IsShelf w g sv T') (hh : IsHead w g hd' H) (hFL : fetchK T' 30 = lawF T' 9)
    
    (ret : ∀ h' tk' m', Fr h₀ L h' m' → News h₀ L h' ((L + 5, c5) :: (L + 4, c4) :: (L + 3, c3) :: (L + 2, c2) :: (L + 1, c1) :: R) → m' (Str.ofString "rows") = m (Str.ofString "rows") → m' (Str.ofString "pen") = m (Str.ofString "pen") → P { s with heap := h', toks := tk' }) :
    wpAny (model PySem.Challenge.rw_nn0123_01.row.prog w) (callerA.deeper (envOfC (Str.ofString "law") (lawS w) L fa cd)) (execs (((turnB w).drop 7).take 3) (envOfC (Str.ofString "law") (lawS w) L fa cd)) (AtEnd P) E s := by
  revert X; k_fill; intro X
  have e1 : turnB w = [_, _, _, _, _, _, _, _, _, _, _, _, _, _, _, _] := rfl
  have e2 : lawS w = ⟨_, _, _, _, _⟩ := rfl
  rw [e1, e2]
  dsimp only [List.drop, List.take]
  clear e1 e2
  (try k_fold)
  (k_steps; repeat' ((refine Hold.mk ?_; first | ((with_reducible show wpAny _ _ (call (Value.ref 472) [_]) _ _ _); (refine' law_is_count_ok ?B ?F ?X ?T ?hk ?N ?hv ?hd ?hu ?_; (case B => k_asm); (case F => k_asm); (case X => k_asm); (case T => k_asm); (case hk => first | exact rfl | assumption); (case N => exact News.nil); (case hv => exact IsD.keeps (by assumption) (sub_news (by assumption) (by assumption) (by intro zx zhx; repeat (first | exact zhx | exact List.mem_append_left _ zhx | exact List.mem_append_right _ zhx | refine List.mem_cons_of_mem _ ?_)))); (case hd => ktr_room); (case hu => ktr_units)); intro zh9 ztk9 zF9 zhb9; (have zN9 := newsStay (by assumption) zhb9); (try dsimp only); refine Hold.out ?_) | ((with_reducible show wpAny _ _ (call (Value.ref 460) [_, _]) _ _ _); (refine' law_fetched_ok ?B ?F ?X ?T ?hk ?N ?hg ?hs ?hv ?hd ?hu ?_; (case B => k_asm); (case F => k_asm); (case X => k_asm); (case T => k_asm); (case hk => first | exact rfl | assumption); (case N => exact News.nil); (case hg => (exact sub_news (by assumption) (by assumption) (by intro zx zhx; repeat (first | exact zhx | exact List.mem_append_left _ zhx | exact List.mem_append_right _ zhx | refine List.mem_cons_of_mem _ ?_)))); (case hs => assumption); (case hv => assumption); (case hd => ktr_room); (case hu => ktr_units)); intro zr9 zh9 ztk9 zF9 zhb9 zhr9; (have zN9 := newsStay (by assumption) zhb9); (try dsimp only)) | ((with_reducible show wpAny _ _ (call (Value.ref 479) [Value.ref 401, _, _]) _ _ _); (refine' heard_n_law ?B ?F ?X ?T ?hk ?XB ?TB ?N ?hg ?hs ?hh ?hd ?hu ?_; (case B => k_asm); (case F => k_asm); (case X => k_asm); (case T => k_asm); (case hk => first | exact rfl | assumption); (case XB => k_asm); (case TB => k_asm); (case N => k_asm); (case hg => (exact sub_news (by assumption) (by assumption) (by intro zx zhx; repeat (first | exact zhx | exact List.mem_append_left _ zhx | exact List.mem_append_right _ zhx | refine List.mem_cons_of_mem _ ?_)))); (case hs => assumption); (case hh => assumption); (case hd => ktr_room); (case hu => ktr_units)); intro zr9 zh9 ztk9 zW9 zF9 zhr9 zN9; (try dsimp only); refine Hold.out ?_) | ((with_reducible show wpAny _ _ (call (Value.ref 479) [Value.ref 394, _, _]) _ _ _); (refine' heard_w_law ?B ?F ?X ?T ?hk ?XB ?TB ?N ?hg ?hs ?hh ?hd ?hu ?_; (case B => k_asm); (case F => k_asm); (case X => k_asm); (case T => k_asm); (case hk => first | exact rfl | assumption); (case XB => k_asm); (case TB => k_asm); (case N => k_asm); (case hg => (exact sub_news (by assumption) (by assumption) (by intro zx zhx; repeat (first | exact zhx | exact List.mem_append_left _ zhx | exact List.mem_append_right _ zhx | refine List.mem_cons_of_mem _ ?_)))); (case hs => assumption); (case hh => assumption); (case hd => ktr_room); (case hu => ktr_units)); intro zr9 zh9 ztk9 zW9 zF9 zhr9 zN9; (try dsimp only); refine Hold.out ?_) | ((with_reducible show wpAny _ _ (call (Value.ref 465) [_, _]) _ _ _); (refine' counts_law ?B ?F ?X ?T ?hk ?N ?hg ?hs ?hv ?hd ?hu ?_; (case B => k_asm); (case F => k_asm); (case X => k_asm); (case T => k_asm); (case hk => first | exact rfl | assumption); (case N => k_asm); (case hg => (exact sub_news (by assumption) (by assumption) (by intro zx zhx; repeat (first | exact zhx | exact List.mem_append_left _ zhx | exact List.mem_append_right _ zhx | refine List.mem_cons_of_mem _ ?_)))); (case hs => assumption); (case hv => assumption); (case hd => ktr_room); (case hu => ktr_units)); intro zr9 zh9 ztk9 zW9 zF9 zhr9 zN9; (try dsimp only); refine Hold.out ?_) | ((with_reducible show wpAny _ _ (call (Value.ref 460) [_, _]) _ _ _); (refine' law_fetched_ok ?B ?F ?X ?T ?hk ?N ?hg ?hs ?hv ?hd ?hu ?_; (case B => k_asm); (case F => k_asm); (case X => k_asm); (case T => k_asm); (case hk => first | exact rfl | assumption); (case N => exact News.nil); (case hv => assumption); (case hs => assumption); (case hg => (first | exact Fr.keep (by assumption) | exact stays_trans (by assumption) (Fr.keep (by assumption)))); (case hd => ktr_room); (case hu => ktr_units)); intro zr9 zh9 ztk9 zF9 zhb9 zhr9; (have zN9 := newsStay (by assumption) zhb9); (try dsimp only)) | ((with_reducible show wpAny _ _ (call (Value.ref 472) [_]) _ _ _); (refine' law_is_count_ok ?B ?F ?X ?T ?hk ?N ?hv ?hd ?hu ?_; (case B => k_asm); (case F => k_asm); (case X => k_asm); (case T => k_asm); (case hk => first | exact rfl | assumption); (case N => exact News.nil); (case hv => (first | exact IsD.keeps (by assumption) (Fr.keep (by assumption)) | exact IsD.keeps (by assumption) (stays_trans (by assumption) (Fr.keep (by assumption))))); (case hd => ktr_room); (case hu => ktr_units)); intro zh9 ztk9 zF9 zhb9; (have zN9 := newsStay (by assumption) zhb9); (try dsimp only))); k_steps))
  unfold Hold
  rename IsCL _ _ _ => hr9
  generalize hcc : cntD (lawF T' 9) (headAt H (Str.ofString "Index")) = c at hr9
  cases c with
  | none =>
    obtain ⟨rfl, rfl⟩ := hr9
    simp only [List.nil_append] at *
    (k_steps; repeat' ((refine Hold.mk ?_; first | ((with_reducible show wpAny _ _ (call (Value.ref 472) [_]) _ _ _); (refine' law_is_count_ok ?B ?F ?X ?T ?hk ?N ?hv ?hd ?hu ?_; (case B => k_asm); (case F => k_asm); (case X => k_asm); (case T => k_asm); (case hk => first | exact rfl | assumption); (case N => exact News.nil); (case hv => exact IsD.keeps (by assumption) (sub_news (by assumption) (by assumption) (by intro zx zhx; repeat (first | exact zhx | exact List.mem_append_left _ zhx | exact List.mem_append_right _ zhx | refine List.mem_cons_of_mem _ ?_)))); (case hd => ktr_room); (case hu => ktr_units)); intro zh9 ztk9 zF9 zhb9; (have zN9 := newsStay (by assumption) zhb9); (try dsimp only); refine Hold.out ?_) | ((with_reducible show wpAny _ _ (call (Value.ref 460) [_, _]) _ _ _); (refine' law_fetched_ok ?B ?F ?X ?T ?hk ?N ?hg ?hs ?hv ?hd ?hu ?_; (case B => k_asm); (case F => k_asm); (case X => k_asm); (case T => k_asm); (case hk => first | exact rfl | assumption); (case N => exact News.nil); (case hg => (exact sub_news (by assumption) (by assumption) (by intro zx zhx; repeat (first | exact zhx | exact List.mem_append_left _ zhx | exact List.mem_append_right _ zhx | refine List.mem_cons_of_mem _ ?_)))); (case hs => assumption); (case hv => assumption); (case hd => ktr_room); (case hu => ktr_units)); intro zr9 zh9 ztk9 zF9 zhb9 zhr9; (have zN9 := newsStay (by assumption) zhb9); (try dsimp only)) | ((with_reducible show wpAny _ _ (call (Value.ref 479) [Value.ref 401, _, _]) _ _ _); (refine' heard_n_law ?B ?F ?X ?T ?hk ?XB ?TB ?N ?hg ?hs ?hh ?hd ?hu ?_; (case B => k_asm); (case F => k_asm); (case X => k_asm); (case T => k_asm); (case hk => first | exact rfl | assumption); (case XB => k_asm); (case TB => k_asm); (case N => k_asm); (case hg => (exact sub_news (by assumption) (by assumption) (by intro zx zhx; repeat (first | exact zhx | exact List.mem_append_left _ zhx | exact List.mem_append_right _ zhx | refine List.mem_cons_of_mem _ ?_)))); (case hs => assumption); (case hh => assumption); (case hd => ktr_room); (case hu => ktr_units)); intro zr9 zh9 ztk9 zW9 zF9 zhr9 zN9; (try dsimp only); refine Hold.out ?_) | ((with_reducible show wpAny _ _ (call (Value.ref 479) [Value.ref 394, _, _]) _ _ _); (refine' heard_w_law ?B ?F ?X ?T ?hk ?XB ?TB ?N ?hg ?hs ?hh ?hd ?hu ?_; (case B => k_asm); (case F => k_asm); (case X => k_asm); (case T => k_asm); (case hk => first | exact rfl | assumption); (case XB => k_asm); (case TB => k_asm); (case N => k_asm); (case hg => (exact sub_news (by assumption) (by assumption) (by intro zx zhx; repeat (first | exact zhx | exact List.mem_append_left _ zhx | exact List.mem_append_right _ zhx | refine List.mem_cons_of_mem _ ?_)))); (case hs => assumption); (case hh => assumption); (case hd => ktr_room); (case hu => ktr_units)); intro zr9 zh9 ztk9 zW9 zF9 zhr9 zN9; (try dsimp only); refine Hold.out ?_) | ((with_reducible show wpAny _ _ (call (Value.ref 465) [_, _]) _ _ _); (refine' counts_law ?B ?F ?X ?T ?hk ?N ?hg ?hs ?hv ?hd ?hu ?_; (case B => k_asm); (case F => k_asm); (case X => k_asm); (case T => k_asm); (case hk => first | exact rfl | assumption); (case N => k_asm); (case hg => (exact sub_news (by assumption) (by assumption) (by intro zx zhx; repeat (first | exact zhx | exact List.mem_append_left _ zhx | exact List.mem_append_right _ zhx | refine List.mem_cons_of_mem _ ?_)))); (case hs => assumption); (case hv => assumption); (case hd => ktr_room); (case hu => ktr_units)); intro zr9 zh9 ztk9 zW9 zF9 zhr9 zN9; (try dsimp only); refine Hold.out ?_) | ((with_reducible show wpAny _ _ (call (Value.ref 460) [_, _]) _ _ _); (refine' law_fetched_ok ?B ?F ?X ?T ?hk ?N ?hg ?hs ?hv ?hd ?hu ?_; (case B => k_asm); (case F => k_asm); (case X => k_asm); (case T => k_asm); (case hk => first | exact rfl | assumption); (case N => exact News.nil); (case hv => assumption); (case hs => assumption); (case hg => (first | exact Fr.keep (by assumption) | exact stays_trans (by assumption) (Fr.keep (by assumption)))); (case hd => ktr_room); (case hu => ktr_units)); intro zr9 zh9 ztk9 zF9 zhb9 zhr9; (have zN9 := newsStay (by assumption) zhb9); (try dsimp only)) | ((with_reducible show wpAny _ _ (call (Value.ref 472) [_]) _ _ _); (refine' law_is_count_ok ?B ?F ?X ?T ?hk ?N ?hv ?hd ?hu ?_; (case B => k_asm); (case F => k_asm); (case X => k_asm); (case T => k_asm); (case hk => first | exact rfl | assumption); (case N => exact News.nil); (case hv => (first | exact IsD.keeps (by assumption) (Fr.keep (by assumption)) | exact IsD.keeps (by assumption) (stays_trans (by assumption) (Fr.keep (by assumption))))); (case hd => ktr_room); (case hu => ktr_units)); intro zh9 ztk9 zF9 zhb9; (have zN9 := newsStay (by assumption) zhb9); (try dsimp only))); k_steps))
    dsimp only [Hold]
    rename IsD g _ (lawF _ _ (headAt H (Str.ofString "Size"))) => hz
    cases hcn : (lawF T' 9 (headAt H (Str.ofString "Size"))).cnt with
    | true =>
      obtain ⟨i, hi, hi0⟩ := cnt_int hcn
      rw [hi] at hz
      obtain ⟨ti, rfl⟩ := hz
      (k_steps; repeat' ((refine Hold.mk ?_; first | ((with_reducible show wpAny _ _ (call (Value.ref 472) [_]) _ _ _); (refine' law_is_count_ok ?B ?F ?X ?T ?hk ?N ?hv ?hd ?hu ?_; (case B => k_asm); (case F => k_asm); (case X => k_asm); (case T => k_asm); (case hk => first | exact rfl | assumption); (case N => exact News.nil); (case hv => exact IsD.keeps (by assumption) (sub_news (by assumption) (by assumption) (by intro zx zhx; repeat (first | exact zhx | exact List.mem_append_left _ zhx | exact List.mem_append_right _ zhx | refine List.mem_cons_of_mem _ ?_)))); (case hd => ktr_room); (case hu => ktr_units)); intro zh9 ztk9 zF9 zhb9; (have zN9 := newsStay (by assumption) zhb9); (try dsimp only); refine Hold.out ?_) | ((with_reducible show wpAny _ _ (call (Value.ref 460) [_, _]) _ _ _); (refine' law_fetched_ok ?B ?F ?X ?T ?hk ?N ?hg ?hs ?hv ?hd ?hu ?_; (case B => k_asm); (case F => k_asm); (case X => k_asm); (case T => k_asm); (case hk => first | exact rfl | assumption); (case N => exact News.nil); (case hg => (exact sub_news (by assumption) (by assumption) (by intro zx zhx; repeat (first | exact zhx | exact List.mem_append_left _ zhx | exact List.mem_append_right _ zhx | refine List.mem_cons_of_mem _ ?_)))); (case hs => assumption); (case hv => assumption); (case hd => ktr_room); (case hu => ktr_units)); intro zr9 zh9 ztk9 zF9 zhb9 zhr9; (have zN9 := newsStay (by assumption) zhb9); (try dsimp only)) | ((with_reducible show wpAny _ _ (call (Value.ref 479) [Value.ref 401, _, _]) _ _ _); (refine' heard_n_law ?B ?F ?X ?T ?hk ?XB ?TB ?N ?hg ?hs ?hh ?hd ?hu ?_; (case B => k_asm); (case F => k_asm); (case X => k_asm); (case T => k_asm); (case hk => first | exact rfl | assumption); (case XB => k_asm); (case TB => k_asm); (case N => k_asm); (case hg => (exact sub_news (by assumption) (by assumption) (by intro zx zhx; repeat (first | exact zhx | exact List.mem_append_left _ zhx | exact List.mem_append_right _ zhx | refine List.mem_cons_of_mem _ ?_)))); (case hs => assumption); (case hh => assumption); (case hd => ktr_room); (case hu => ktr_units)); intro zr9 zh9 ztk9 zW9 zF9 zhr9 zN9; (try dsimp only); refine Hold.out ?_) | ((with_reducible show wpAny _ _ (call (Value.ref 479) [Value.ref 394, _, _]) _ _ _); (refine' heard_w_law ?B ?F ?X ?T ?hk ?XB ?TB ?N ?hg ?hs ?hh ?hd ?hu ?_; (case B => k_asm); (case F => k_asm); (case X => k_asm); (case T => k_asm); (case hk => first | exact rfl | assumption); (case XB => k_asm); (case TB => k_asm); (case N => k_asm); (case hg => (exact sub_news (by assumption) (by assumption) (by intro zx zhx; repeat (first | exact zhx | exact List.mem_append_left _ zhx | exact List.mem_append_right _ zhx | refine List.mem_cons_of_mem _ ?_)))); (case hs => assumption); (case hh => assumption); (case hd => ktr_room); (case hu => ktr_units)); intro zr9 zh9 ztk9 zW9 zF9 zhr9 zN9; (try dsimp only); refine Hold.out ?_) | ((with_reducible show wpAny _ _ (call (Value.ref 465) [_, _]) _ _ _); (refine' counts_law ?B ?F ?X ?T ?hk ?N ?hg ?hs ?hv ?hd ?hu ?_; (case B => k_asm); (case F => k_asm); (case X => k_asm); (case T => k_asm); (case hk => first | exact rfl | assumption); (case N => k_asm); (case hg => (exact sub_news (by assumption) (by assumption) (by intro zx zhx; repeat (first | exact zhx | exact List.mem_append_left _ zhx | exact List.mem_append_right _ zhx | refine List.mem_cons_of_mem _ ?_)))); (case hs => assumption); (case hv => assumption); (case hd => ktr_room); (case hu => ktr_units)); intro zr9 zh9 ztk9 zW9 zF9 zhr9 zN9; (try dsimp only); refine Hold.out ?_) | ((with_reducible show wpAny _ _ (call (Value.ref 460) [_, _]) _ _ _); (refine' law_fetched_ok ?B ?F ?X ?T ?hk ?N ?hg ?hs ?hv ?hd ?hu ?_; (case B => k_asm); (case F => k_asm); (case X => k_asm); (case T => k_asm); (case hk => first | exact rfl | assumption); (case N => exact News.nil); (case hv => assumption); (case hs => assumption); (case hg => (first | exact Fr.keep (by assumption) | exact stays_trans (by assumption) (Fr.keep (by assumption)))); (case hd => ktr_room); (case hu => ktr_units)); intro zr9 zh9 ztk9 zF9 zhb9 zhr9; (have zN9 := newsStay (by assumption) zhb9); (try dsimp only)) | ((with_reducible show wpAny _ _ (call (Value.ref 472) [_]) _ _ _); (refine' law_is_count_ok ?B ?F ?X ?T ?hk ?N ?hv ?hd ?hu ?_; (case B => k_asm); (case F => k_asm); (case X => k_asm); (case T => k_asm); (case hk => first | exact rfl | assumption); (case N => exact News.nil); (case hv => (first | exact IsD.keeps (by assumption) (Fr.keep (by assumption)) | exact IsD.keeps (by assumption) (stays_trans (by assumption) (Fr.keep (by assumption))))); (case hd => ktr_room); (case hu => ktr_units)); intro zh9 ztk9 zF9 zhb9; (have zN9 := newsStay (by assumption) zhb9); (try dsimp only))); k_steps))
      unfold Hold
      rename IsCL _ _ (numsC _ _) => hr
      rw [hFL, hcc, hi, numsC_size rfl hi0] at hr
      obtain ⟨a8, vs8, n8, rfl, rfl, hi8, hl8⟩ := hr
      simp only [List.cons_append, List.nil_append] at *
      (k_steps; repeat' ((refine Hold.mk ?_; first | ((with_reducible show wpAny _ _ (call (Value.ref 472) [_]) _ _ _); (refine' law_is_count_ok ?B ?F ?X ?T ?hk ?N ?hv ?hd ?hu ?_; (case B => k_asm); (case F => k_asm); (case X => k_asm); (case T => k_asm); (case hk => first | exact rfl | assumption); (case N => exact News.nil); (case hv => exact IsD.keeps (by assumption) (sub_news (by assumption) (by assumption) (by intro zx zhx; repeat (first | exact zhx | exact List.mem_append_left _ zhx | exact List.mem_append_right _ zhx | refine List.mem_cons_of_mem _ ?_)))); (case hd => ktr_room); (case hu => ktr_units)); intro zh9 ztk9 zF9 zhb9; (have zN9 := newsStay (by assumption) zhb9); (try dsimp only); refine Hold.out ?_) | ((with_reducible show wpAny _ _ (call (Value.ref 460) [_, _]) _ _ _); (refine' law_fetched_ok ?B ?F ?X ?T ?hk ?N ?hg ?hs ?hv ?hd ?hu ?_; (case B => k_asm); (case F => k_asm); (case X => k_asm); (case T => k_asm); (case hk => first | exact rfl | assumption); (case N => exact News.nil); (case hg => (exact sub_news (by assumption) (by assumption) (by intro zx zhx; repeat (first | exact zhx | exact List.mem_append_left _ zhx | exact List.mem_append_right _ zhx | refine List.mem_cons_of_mem _ ?_)))); (case hs => assumption); (case hv => assumption); (case hd => ktr_room); (case hu => ktr_units)); intro zr9 zh9 ztk9 zF9 zhb9 zhr9; (have zN9 := newsStay (by assumption) zhb9); (try dsimp only)) | ((with_reducible show wpAny _ _ (call (Value.ref 479) [Value.ref 401, _, _]) _ _ _); (refine' heard_n_law ?B ?F ?X ?T ?hk ?XB ?TB ?N ?hg ?hs ?hh ?hd ?hu ?_; (case B => k_asm); (case F => k_asm); (case X => k_asm); (case T => k_asm); (case hk => first | exact rfl | assumption); (case XB => k_asm); (case TB => k_asm); (case N => k_asm); (case hg => (exact sub_news (by assumption) (by assumption) (by intro zx zhx; repeat (first | exact zhx | exact List.mem_append_left _ zhx | exact List.mem_append_right _ zhx | refine List.mem_cons_of_mem _ ?_)))); (case hs => assumption); (case hh => assumption); (case hd => ktr_room); (case hu => ktr_units)); intro zr9 zh9 ztk9 zW9 zF9 zhr9 zN9; (try dsimp only); refine Hold.out ?_) | ((with_reducible show wpAny _ _ (call (Value.ref 479) [Value.ref 394, _, _]) _ _ _); (refine' heard_w_law ?B ?F ?X ?T ?hk ?XB ?TB ?N ?hg ?hs ?hh ?hd ?hu ?_; (case B => k_asm); (case F => k_asm); (case X => k_asm); (case T => k_asm); (case hk => first | exact rfl | assumption); (case XB => k_asm); (case TB => k_asm); (case N => k_asm); (case hg => (exact sub_news (by assumption) (by assumption) (by intro zx zhx; repeat (first | exact zhx | exact List.mem_append_left _ zhx | exact List.mem_append_right _ zhx | refine List.mem_cons_of_mem _ ?_)))); (case hs => assumption); (case hh => assumption); (case hd => ktr_room); (case hu => ktr_units)); intro zr9 zh9 ztk9 zW9 zF9 zhr9 zN9; (try dsimp only); refine Hold.out ?_) | ((with_reducible show wpAny _ _ (call (Value.ref 465) [_, _]) _ _ _); (refine' counts_law ?B ?F ?X ?T ?hk ?N ?hg ?hs ?hv ?hd ?hu ?_; (case B => k_asm); (case F => k_asm); (case X => k_asm); (case T => k_asm); (case hk => first | exact rfl | assumption); (case N => k_asm); (case hg => (exact sub_news (by assumption) (by assumption) (by intro zx zhx; repeat (first | exact zhx | exact List.mem_append_left _ zhx | exact List.mem_append_right _ zhx | refine List.mem_cons_of_mem _ ?_)))); (case hs => assumption); (case hv => assumption); (case hd => ktr_room); (case hu => ktr_units)); intro zr9 zh9 ztk9 zW9 zF9 zhr9 zN9; (try dsimp only); refine Hold.out ?_) | ((with_reducible show wpAny _ _ (call (Value.ref 460) [_, _]) _ _ _); (refine' law_fetched_ok ?B ?F ?X ?T ?hk ?N ?hg ?hs ?hv ?hd ?hu ?_; (case B => k_asm); (case F => k_asm); (case X => k_asm); (case T => k_asm); (case hk => first | exact rfl | assumption); (case N => exact News.nil); (case hv => assumption); (case hs => assumption); (case hg => (first | exact Fr.keep (by assumption) | exact stays_trans (by assumption) (Fr.keep (by assumption)))); (case hd => ktr_room); (case hu => ktr_units)); intro zr9 zh9 ztk9 zF9 zhb9 zhr9; (have zN9 := newsStay (by assumption) zhb9); (try dsimp only)) | ((with_reducible show wpAny _ _ (call (Value.ref 472) [_]) _ _ _); (refine' law_is_count_ok ?B ?F ?X ?T ?hk ?N ?hv ?hd ?hu ?_; (case B => k_asm); (case F => k_asm); (case X => k_asm); (case T => k_asm); (case hk => first | exact rfl | assumption); (case N => exact News.nil); (case hv => (first | exact IsD.keeps (by assumption) (Fr.keep (by assumption)) | exact IsD.keeps (by assumption) (stays_trans (by assumption) (Fr.keep (by assumption))))); (case hd => ktr_room); (case hu => ktr_units)); intro zh9 ztk9 zF9 zhb9; (have zN9 := newsStay (by assumption) zhb9); (try dsimp only))); k_steps))
      all_goals (first | (exfalso; omega) | (unfold AtEnd; dsimp only [Hold]; exact ret _ _ _ (by assumption) (news_sub (by assumption) (by intro x hx; repeat (first | exact hx | exact List.mem_append_left _ hx | exact List.mem_append_right _ hx | refine List.mem_cons_of_mem _ ?_))) (by rfl) (by rfl)))
    | false =>
      (k_steps; repeat' ((refine Hold.mk ?_; first | ((with_reducible show wpAny _ _ (call (Value.ref 472) [_]) _ _ _); (refine' law_is_count_ok ?B ?F ?X ?T ?hk ?N ?hv ?hd ?hu ?_; (case B => k_asm); (case F => k_asm); (case X => k_asm); (case T => k_asm); (case hk => first | exact rfl | assumption); (case N => exact News.nil); (case hv => exact IsD.keeps (by assumption) (sub_news (by assumption) (by assumption) (by intro zx zhx; repeat (first | exact zhx | exact List.mem_append_left _ zhx | exact List.mem_append_right _ zhx | refine List.mem_cons_of_mem _ ?_)))); (case hd => ktr_room); (case hu => ktr_units)); intro zh9 ztk9 zF9 zhb9; (have zN9 := newsStay (by assumption) zhb9); (try dsimp only); refine Hold.out ?_) | ((with_reducible show wpAny _ _ (call (Value.ref 460) [_, _]) _ _ _); (refine' law_fetched_ok ?B ?F ?X ?T ?hk ?N ?hg ?hs ?hv ?hd ?hu ?_; (case B => k_asm); (case F => k_asm); (case X => k_asm); (case T => k_asm); (case hk => first | exact rfl | assumption); (case N => exact News.nil); (case hg => (exact sub_news (by assumption) (by assumption) (by intro zx zhx; repeat (first | exact zhx | exact List.mem_append_left _ zhx | exact List.mem_append_right _ zhx | refine List.mem_cons_of_mem _ ?_)))); (case hs => assumption); (case hv => assumption); (case hd => ktr_room); (case hu => ktr_units)); intro zr9 zh9 ztk9 zF9 zhb9 zhr9; (have zN9 := newsStay (by assumption) zhb9); (try dsimp only)) | ((with_reducible show wpAny _ _ (call (Value.ref 479) [Value.ref 401, _, _]) _ _ _); (refine' heard_n_law ?B ?F ?X ?T ?hk ?XB ?TB ?N ?hg ?hs ?hh ?hd ?hu ?_; (case B => k_asm); (case F => k_asm); (case X => k_asm); (case T => k_asm); (case hk => first | exact rfl | assumption); (case XB => k_asm); (case TB => k_asm); (case N => k_asm); (case hg => (exact sub_news (by assumption) (by assumption) (by intro zx zhx; repeat (first | exact zhx | exact List.mem_append_left _ zhx | exact List.mem_append_right _ zhx | refine List.mem_cons_of_mem _ ?_)))); (case hs => assumption); (case hh => assumption); (case hd => ktr_room); (case hu => ktr_units)); intro zr9 zh9 ztk9 zW9 zF9 zhr9 zN9; (try dsimp only); refine Hold.out ?_) | ((with_reducible show wpAny _ _ (call (Value.ref 479) [Value.ref 394, _, _]) _ _ _); (refine' heard_w_law ?B ?F ?X ?T ?hk ?XB ?TB ?N ?hg ?hs ?hh ?hd ?hu ?_; (case B => k_asm); (case F => k_asm); (case X => k_asm); (case T => k_asm); (case hk => first | exact rfl | assumption); (case XB => k_asm); (case TB => k_asm); (case N => k_asm); (case hg => (exact sub_news (by assumption) (by assumption) (by intro zx zhx; repeat (first | exact zhx | exact List.mem_append_left _ zhx | exact List.mem_append_right _ zhx | refine List.mem_cons_of_mem _ ?_)))); (case hs => assumption); (case hh => assumption); (case hd => ktr_room); (case hu => ktr_units)); intro zr9 zh9 ztk9 zW9 zF9 zhr9 zN9; (try dsimp only); refine Hold.out ?_) | ((with_reducible show wpAny _ _ (call (Value.ref 465) [_, _]) _ _ _); (refine' counts_law ?B ?F ?X ?T ?hk ?N ?hg ?hs ?hv ?hd ?hu ?_; (case B => k_asm); (case F => k_asm); (case X => k_asm); (case T => k_asm); (case hk => first | exact rfl | assumption); (case N => k_asm); (case hg => (exact sub_news (by assumption) (by assumption) (by intro zx zhx; repeat (first | exact zhx | exact List.mem_append_left _ zhx | exact List.mem_append_right _ zhx | refine List.mem_cons_of_mem _ ?_)))); (case hs => assumption); (case hv => assumption); (case hd => ktr_room); (case hu => ktr_units)); intro zr9 zh9 ztk9 zW9 zF9 zhr9 zN9; (try dsimp only); refine Hold.out ?_) | ((with_reducible show wpAny _ _ (call (Value.ref 460) [_, _]) _ _ _); (refine' law_fetched_ok ?B ?F ?X ?T ?hk ?N ?hg ?hs ?hv ?hd ?hu ?_; (case B => k_asm); (case F => k_asm); (case X => k_asm); (case T => k_asm); (case hk => first | exact rfl | assumption); (case N => exact News.nil); (case hv => assumption); (case hs => assumption); (case hg => (first | exact Fr.keep (by assumption) | exact stays_trans (by assumption) (Fr.keep (by assumption)))); (case hd => ktr_room); (case hu => ktr_units)); intro zr9 zh9 ztk9 zF9 zhb9 zhr9; (have zN9 := newsStay (by assumption) zhb9); (try dsimp only)) | ((with_reducible show wpAny _ _ (call (Value.ref 472) [_]) _ _ _); (refine' law_is_count_ok ?B ?F ?X ?T ?hk ?N ?hv ?hd ?hu ?_; (case B => k_asm); (case F => k_asm); (case X => k_asm); (case T => k_asm); (case hk => first | exact rfl | assumption); (case N => exact News.nil); (case hv => (first | exact IsD.keeps (by assumption) (Fr.keep (by assumption)) | exact IsD.keeps (by assumption) (stays_trans (by assumption) (Fr.keep (by assumption))))); (case hd => ktr_room); (case hu => ktr_units)); intro zh9 ztk9 zF9 zhb9; (have zN9 := newsStay (by assumption) zhb9); (try dsimp only))); k_steps))
      unfold Hold
      rename IsCL _ _ (numsC _ _) => hr
      rw [hFL, hcc, numsC_none hcn] at hr
      obtain ⟨rfl, t8, rfl⟩ := hr
      simp only [List.nil_append] at *
      (k_steps; repeat' ((refine Hold.mk ?_; first | ((with_reducible show wpAny _ _ (call (Value.ref 472) [_]) _ _ _); (refine' law_is_count_ok ?B ?F ?X ?T ?hk ?N ?hv ?hd ?hu ?_; (case B => k_asm); (case F => k_asm); (case X => k_asm); (case T => k_asm); (case hk => first | exact rfl | assumption); (case N => exact News.nil); (case hv => exact IsD.keeps (by assumption) (sub_news (by assumption) (by assumption) (by intro zx zhx; repeat (first | exact zhx | exact List.mem_append_left _ zhx | exact List.mem_append_right _ zhx | refine List.mem_cons_of_mem _ ?_)))); (case hd => ktr_room); (case hu => ktr_units)); intro zh9 ztk9 zF9 zhb9; (have zN9 := newsStay (by assumption) zhb9); (try dsimp only); refine Hold.out ?_) | ((with_reducible show wpAny _ _ (call (Value.ref 460) [_, _]) _ _ _); (refine' law_fetched_ok ?B ?F ?X ?T ?hk ?N ?hg ?hs ?hv ?hd ?hu ?_; (case B => k_asm); (case F => k_asm); (case X => k_asm); (case T => k_asm); (case hk => first | exact rfl | assumption); (case N => exact News.nil); (case hg => (exact sub_news (by assumption) (by assumption) (by intro zx zhx; repeat (first | exact zhx | exact List.mem_append_left _ zhx | exact List.mem_append_right _ zhx | refine List.mem_cons_of_mem _ ?_)))); (case hs => assumption); (case hv => assumption); (case hd => ktr_room); (case hu => ktr_units)); intro zr9 zh9 ztk9 zF9 zhb9 zhr9; (have zN9 := newsStay (by assumption) zhb9); (try dsimp only)) | ((with_reducible show wpAny _ _ (call (Value.ref 479) [Value.ref 401, _, _]) _ _ _); (refine' heard_n_law ?B ?F ?X ?T ?hk ?XB ?TB ?N ?hg ?hs ?hh ?hd ?hu ?_; (case B => k_asm); (case F => k_asm); (case X => k_asm); (case T => k_asm); (case hk => first | exact rfl | assumption); (case XB => k_asm); (case TB => k_asm); (case N => k_asm); (case hg => (exact sub_news (by assumption) (by assumption) (by intro zx zhx; repeat (first | exact zhx | exact List.mem_append_left _ zhx | exact List.mem_append_right _ zhx | refine List.mem_cons_of_mem _ ?_)))); (case hs => assumption); (case hh => assumption); (case hd => ktr_room); (case hu => ktr_units)); intro zr9 zh9 ztk9 zW9 zF9 zhr9 zN9; (try dsimp only); refine Hold.out ?_) | ((with_reducible show wpAny _ _ (call (Value.ref 479) [Value.ref 394, _, _]) _ _ _); (refine' heard_w_law ?B ?F ?X ?T ?hk ?XB ?TB ?N ?hg ?hs ?hh ?hd ?hu ?_; (case B => k_asm); (case F => k_asm); (case X => k_asm); (case T => k_asm); (case hk => first | exact rfl | assumption); (case XB => k_asm); (case TB => k_asm); (case N => k_asm); (case hg => (exact sub_news (by assumption) (by assumption) (by intro zx zhx; repeat (first | exact zhx | exact List.mem_append_left _ zhx | exact List.mem_append_right _ zhx | refine List.mem_cons_of_mem _ ?_)))); (case hs => assumption); (case hh => assumption); (case hd => ktr_room); (case hu => ktr_units)); intro zr9 zh9 ztk9 zW9 zF9 zhr9 zN9; (try dsimp only); refine Hold.out ?_) | ((with_reducible show wpAny _ _ (call (Value.ref 465) [_, _]) _ _ _); (refine' counts_law ?B ?F ?X ?T ?hk ?N ?hg ?hs ?hv ?hd ?hu ?_; (case B => k_asm); (case F => k_asm); (case X => k_asm); (case T => k_asm); (case hk => first | exact rfl | assumption); (case N => k_asm); (case hg => (exact sub_news (by assumption) (by assumption) (by intro zx zhx; repeat (first | exact zhx | exact List.mem_append_left _ zhx | exact List.mem_append_right _ zhx | refine List.mem_cons_of_mem _ ?_)))); (case hs => assumption); (case hv => assumption); (case hd => ktr_room); (case hu => ktr_units)); intro zr9 zh9 ztk9 zW9 zF9 zhr9 zN9; (try dsimp only); refine Hold.out ?_) | ((with_reducible show wpAny _ _ (call (Value.ref 460) [_, _]) _ _ _); (refine' law_fetched_ok ?B ?F ?X ?T ?hk ?N ?hg ?hs ?hv ?hd ?hu ?_; (case B => k_asm); (case F => k_asm); (case X => k_asm); (case T => k_asm); (case hk => first | exact rfl | assumption); (case N => exact News.nil); (case hv => assumption); (case hs => assumption); (case hg => (first | exact Fr.keep (by assumption) | exact stays_trans (by assumption) (Fr.keep (by assumption)))); (case hd => ktr_room); (case hu => ktr_units)); intro zr9 zh9 ztk9 zF9 zhb9 zhr9; (have zN9 := newsStay (by assumption) zhb9); (try dsimp only)) | ((with_reducible show wpAny _ _ (call (Value.ref 472) [_]) _ _ _); (refine' law_is_count_ok ?B ?F ?X ?T ?hk ?N ?hv ?hd ?hu ?_; (case B => k_asm); (case F => k_asm); (case X => k_asm); (case T => k_asm); (case hk => first | exact rfl | assumption); (case N => exact News.nil); (case hv => (first | exact IsD.keeps (by assumption) (Fr.keep (by assumption)) | exact IsD.keeps (by assumption) (stays_trans (by assumption) (Fr.keep (by assumption))))); (case hd => ktr_room); (case hu => ktr_units)); intro zh9 ztk9 zF9 zhb9; (have zN9 := newsStay (by assumption) zhb9); (try dsimp only))); k_steps))
      unfold AtEnd
      dsimp only [Hold]
      exact ret _ _ _ (by assumption) (news_sub (by assumption) (by intro x hx; repeat (first | exact hx | exact List.mem_append_left _ hx | exact List.mem_append_right _ hx | refine List.mem_cons_of_mem _ ?_))) (by rfl) (by rfl)
  | bad =>
    obtain ⟨rfl, t9, rfl⟩ := hr9
    simp only [List.nil_append] at *
    (k_steps; repeat' ((refine Hold.mk ?_; first | ((with_reducible show wpAny _ _ (call (Value.ref 472) [_]) _ _ _); (refine' law_is_count_ok ?B ?F ?X ?T ?hk ?N ?hv ?hd ?hu ?_; (case B => k_asm); (case F => k_asm); (case X => k_asm); (case T => k_asm); (case hk => first | exact rfl | assumption); (case N => exact News.nil); (case hv => exact IsD.keeps (by assumption) (sub_news (by assumption) (by assumption) (by intro zx zhx; repeat (first | exact zhx | exact List.mem_append_left _ zhx | exact List.mem_append_right _ zhx | refine List.mem_cons_of_mem _ ?_)))); (case hd => ktr_room); (case hu => ktr_units)); intro zh9 ztk9 zF9 zhb9; (have zN9 := newsStay (by assumption) zhb9); (try dsimp only); refine Hold.out ?_) | ((with_reducible show wpAny _ _ (call (Value.ref 460) [_, _]) _ _ _); (refine' law_fetched_ok ?B ?F ?X ?T ?hk ?N ?hg ?hs ?hv ?hd ?hu ?_; (case B => k_asm); (case F => k_asm); (case X => k_asm); (case T => k_asm); (case hk => first | exact rfl | assumption); (case N => exact News.nil); (case hg => (exact sub_news (by assumption) (by assumption) (by intro zx zhx; repeat (first | exact zhx | exact List.mem_append_left _ zhx | exact List.mem_append_right _ zhx | refine List.mem_cons_of_mem _ ?_)))); (case hs => assumption); (case hv => assumption); (case hd => ktr_room); (case hu => ktr_units)); intro zr9 zh9 ztk9 zF9 zhb9 zhr9; (have zN9 := newsStay (by assumption) zhb9); (try dsimp only)) | ((with_reducible show wpAny _ _ (call (Value.ref 479) [Value.ref 401, _, _]) _ _ _); (refine' heard_n_law ?B ?F ?X ?T ?hk ?XB ?TB ?N ?hg ?hs ?hh ?hd ?hu ?_; (case B => k_asm); (case F => k_asm); (case X => k_asm); (case T => k_asm); (case hk => first | exact rfl | assumption); (case XB => k_asm); (case TB => k_asm); (case N => k_asm); (case hg => (exact sub_news (by assumption) (by assumption) (by intro zx zhx; repeat (first | exact zhx | exact List.mem_append_left _ zhx | exact List.mem_append_right _ zhx | refine List.mem_cons_of_mem _ ?_)))); (case hs => assumption); (case hh => assumption); (case hd => ktr_room); (case hu => ktr_units)); intro zr9 zh9 ztk9 zW9 zF9 zhr9 zN9; (try dsimp only); refine Hold.out ?_) | ((with_reducible show wpAny _ _ (call (Value.ref 479) [Value.ref 394, _, _]) _ _ _); (refine' heard_w_law ?B ?F ?X ?T ?hk ?XB ?TB ?N ?hg ?hs ?hh ?hd ?hu ?_; (case B => k_asm); (case F => k_asm); (case X => k_asm); (case T => k_asm); (case hk => first | exact rfl | assumption); (case XB => k_asm); (case TB => k_asm); (case N => k_asm); (case hg => (exact sub_news (by assumption) (by assumption) (by intro zx zhx; repeat (first | exact zhx | exact List.mem_append_left _ zhx | exact List.mem_append_right _ zhx | refine List.mem_cons_of_mem _ ?_)))); (case hs => assumption); (case hh => assumption); (case hd => ktr_room); (case hu => ktr_units)); intro zr9 zh9 ztk9 zW9 zF9 zhr9 zN9; (try dsimp only); refine Hold.out ?_) | ((with_reducible show wpAny _ _ (call (Value.ref 465) [_, _]) _ _ _); (refine' counts_law ?B ?F ?X ?T ?hk ?N ?hg ?hs ?hv ?hd ?hu ?_; (case B => k_asm); (case F => k_asm); (case X => k_asm); (case T => k_asm); (case hk => first | exact rfl | assumption); (case N => k_asm); (case hg => (exact sub_news (by assumption) (by assumption) (by intro zx zhx; repeat (first | exact zhx | exact List.mem_append_left _ zhx | exact List.mem_append_right _ zhx | refine List.mem_cons_of_mem _ ?_)))); (case hs => assumption); (case hv => assumption); (case hd => ktr_room); (case hu => ktr_units)); intro zr9 zh9 ztk9 zW9 zF9 zhr9 zN9; (try dsimp only); refine Hold.out ?_) | ((with_reducible show wpAny _ _ (call (Value.ref 460) [_, _]) _ _ _); (refine' law_fetched_ok ?B ?F ?X ?T ?hk ?N ?hg ?hs ?hv ?hd ?hu ?_; (case B => k_asm); (case F => k_asm); (case X => k_asm); (case T => k_asm); (case hk => first | exact rfl | assumption); (case N => exact News.nil); (case hv => assumption); (case hs => assumption); (case hg => (first | exact Fr.keep (by assumption) | exact stays_trans (by assumption) (Fr.keep (by assumption)))); (case hd => ktr_room); (case hu => ktr_units)); intro zr9 zh9 ztk9 zF9 zhb9 zhr9; (have zN9 := newsStay (by assumption) zhb9); (try dsimp only)) | ((with_reducible show wpAny _ _ (call (Value.ref 472) [_]) _ _ _); (refine' law_is_count_ok ?B ?F ?X ?T ?hk ?N ?hv ?hd ?hu ?_; (case B => k_asm); (case F => k_asm); (case X => k_asm); (case T => k_asm); (case hk => first | exact rfl | assumption); (case N => exact News.nil); (case hv => (first | exact IsD.keeps (by assumption) (Fr.keep (by assumption)) | exact IsD.keeps (by assumption) (stays_trans (by assumption) (Fr.keep (by assumption))))); (case hd => ktr_room); (case hu => ktr_units)); intro zh9 ztk9 zF9 zhb9; (have zN9 := newsStay (by assumption) zhb9); (try dsimp only))); k_steps))
    unfold Hold
    rename IsCL _ _ (numsC _ _) => hr
    rw [hFL, hcc] at hr
    obtain ⟨rfl, t8, rfl⟩ := hr
    simp only [List.nil_append] at *
    (k_steps; repeat' ((refine Hold.mk ?_; first | ((with_reducible show wpAny _ _ (call (Value.ref 472) [_]) _ _ _); (refine' law_is_count_ok ?B ?F ?X ?T ?hk ?N ?hv ?hd ?hu ?_; (case B => k_asm); (case F => k_asm); (case X => k_asm); (case T => k_asm); (case hk => first | exact rfl | assumption); (case N => exact News.nil); (case hv => exact IsD.keeps (by assumption) (sub_news (by assumption) (by assumption) (by intro zx zhx; repeat (first | exact zhx | exact List.mem_append_left _ zhx | exact List.mem_append_right _ zhx | refine List.mem_cons_of_mem _ ?_)))); (case hd => ktr_room); (case hu => ktr_units)); intro zh9 ztk9 zF9 zhb9; (have zN9 := newsStay (by assumption) zhb9); (try dsimp only); refine Hold.out ?_) | ((with_reducible show wpAny _ _ (call (Value.ref 460) [_, _]) _ _ _); (refine' law_fetched_ok ?B ?F ?X ?T ?hk ?N ?hg ?hs ?hv ?hd ?hu ?_; (case B => k_asm); (case F => k_asm); (case X => k_asm); (case T => k_asm); (case hk => first | exact rfl | assumption); (case N => exact News.nil); (case hg => (exact sub_news (by assumption) (by assumption) (by intro zx zhx; repeat (first | exact zhx | exact List.mem_append_left _ zhx | exact List.mem_append_right _ zhx | refine List.mem_cons_of_mem _ ?_)))); (case hs => assumption); (case hv => assumption); (case hd => ktr_room); (case hu => ktr_units)); intro zr9 zh9 ztk9 zF9 zhb9 zhr9; (have zN9 := newsStay (by assumption) zhb9); (try dsimp only)) | ((with_reducible show wpAny _ _ (call (Value.ref 479) [Value.ref 401, _, _]) _ _ _); (refine' heard_n_law ?B ?F ?X ?T ?hk ?XB ?TB ?N ?hg ?hs ?hh ?hd ?hu ?_; (case B => k_asm); (case F => k_asm); (case X => k_asm); (case T => k_asm); (case hk => first | exact rfl | assumption); (case XB => k_asm); (case TB => k_asm); (case N => k_asm); (case hg => (exact sub_news (by assumption) (by assumption) (by intro zx zhx; repeat (first | exact zhx | exact List.mem_append_left _ zhx | exact List.mem_append_right _ zhx | refine List.mem_cons_of_mem _ ?_)))); (case hs => assumption); (case hh => assumption); (case hd => ktr_room); (case hu => ktr_units)); intro zr9 zh9 ztk9 zW9 zF9 zhr9 zN9; (try dsimp only); refine Hold.out ?_) | ((with_reducible show wpAny _ _ (call (Value.ref 479) [Value.ref 394, _, _]) _ _ _); (refine' heard_w_law ?B ?F ?X ?T ?hk ?XB ?TB ?N ?hg ?hs ?hh ?hd ?hu ?_; (case B => k_asm); (case F => k_asm); (case X => k_asm); (case T => k_asm); (case hk => first | exact rfl | assumption); (case XB => k_asm); (case TB => k_asm); (case N => k_asm); (case hg => (exact sub_news (by assumption) (by assumption) (by intro zx zhx; repeat (first | exact zhx | exact List.mem_append_left _ zhx | exact List.mem_append_right _ zhx | refine List.mem_cons_of_mem _ ?_)))); (case hs => assumption); (case hh => assumption); (case hd => ktr_room); (case hu => ktr_units)); intro zr9 zh9 ztk9 zW9 zF9 zhr9 zN9; (try dsimp only); refine Hold.out ?_) | ((with_reducible show wpAny _ _ (call (Value.ref 465) [_, _]) _ _ _); (refine' counts_law ?B ?F ?X ?T ?hk ?N ?hg ?hs ?hv ?hd ?hu ?_; (case B => k_asm); (case F => k_asm); (case X => k_asm); (case T => k_asm); (case hk => first | exact rfl | assumption); (case N => k_asm); (case hg => (exact sub_news (by assumption) (by assumption) (by intro zx zhx; repeat (first | exact zhx | exact List.mem_append_left _ zhx | exact List.mem_append_right _ zhx | refine List.mem_cons_of_mem _ ?_)))); (case hs => assumption); (case hv => assumption); (case hd => ktr_room); (case hu => ktr_units)); intro zr9 zh9 ztk9 zW9 zF9 zhr9 zN9; (try dsimp only); refine Hold.out ?_) | ((with_reducible show wpAny _ _ (call (Value.ref 460) [_, _]) _ _ _); (refine' law_fetched_ok ?B ?F ?X ?T ?hk ?N ?hg ?hs ?hv ?hd ?hu ?_; (case B => k_asm); (case F => k_asm); (case X => k_asm); (case T => k_asm); (case hk => first | exact rfl | assumption); (case N => exact News.nil); (case hv => assumption); (case hs => assumption); (case hg => (first | exact Fr.keep (by assumption) | exact stays_trans (by assumption) (Fr.keep (by assumption)))); (case hd => ktr_room); (case hu => ktr_units)); intro zr9 zh9 ztk9 zF9 zhb9 zhr9; (have zN9 := newsStay (by assumption) zhb9); (try dsimp only)) | ((with_reducible show wpAny _ _ (call (Value.ref 472) [_]) _ _ _); (refine' law_is_count_ok ?B ?F ?X ?T ?hk ?N ?hv ?hd ?hu ?_; (case B => k_asm); (case F => k_asm); (case X => k_asm); (case T => k_asm); (case hk => first | exact rfl | assumption); (case N => exact News.nil); (case hv => (first | exact IsD.keeps (by assumption) (Fr.keep (by assumption)) | exact IsD.keeps (by assumption) (stays_trans (by assumption) (Fr.keep (by assumption))))); (case hd => ktr_room); (case hu => ktr_units)); intro zh9 ztk9 zF9 zhb9; (have zN9 := newsStay (by assumption) zhb9); (try dsimp only))); k_steps))
    unfold AtEnd
    dsimp only [Hold]
    exact ret _ _ _ (by assumption) (news_sub (by assumption) (by intro x hx; repeat (first | exact hx | exact List.mem_append_left _ hx | exact List.mem_append_right _ hx | refine List.mem_cons_of_mem _ ?_))) (by rfl) (by rfl)
  | ns l =>
    obtain ⟨a9, vs9, n9, rfl, rfl, hi9, hl9⟩ := hr9
    simp only [List.cons_append, List.nil_append] at *
    have hlen := hi9.length
    have hfm : ((l.length : Int)).fmod 2 = (l.length : Int) % 2 := Int.fmod_eq_emod_of_nonneg _ (by decide)
    (k_steps; repeat' ((refine Hold.mk ?_; first | ((with_reducible show wpAny _ _ (call (Value.ref 472) [_]) _ _ _); (refine' law_is_count_ok ?B ?F ?X ?T ?hk ?N ?hv ?hd ?hu ?_; (case B => k_asm); (case F => k_asm); (case X => k_asm); (case T => k_asm); (case hk => first | exact rfl | assumption); (case N => exact News.nil); (case hv => exact IsD.keeps (by assumption) (sub_news (by assumption) (by assumption) (by intro zx zhx; repeat (first | exact zhx | exact List.mem_append_left _ zhx | exact List.mem_append_right _ zhx | refine List.mem_cons_of_mem _ ?_)))); (case hd => ktr_room); (case hu => ktr_units)); intro zh9 ztk9 zF9 zhb9; (have zN9 := newsStay (by assumption) zhb9); (try dsimp only); refine Hold.out ?_) | ((with_reducible show wpAny _ _ (call (Value.ref 460) [_, _]) _ _ _); (refine' law_fetched_ok ?B ?F ?X ?T ?hk ?N ?hg ?hs ?hv ?hd ?hu ?_; (case B => k_asm); (case F => k_asm); (case X => k_asm); (case T => k_asm); (case hk => first | exact rfl | assumption); (case N => exact News.nil); (case hg => (exact sub_news (by assumption) (by assumption) (by intro zx zhx; repeat (first | exact zhx | exact List.mem_append_left _ zhx | exact List.mem_append_right _ zhx | refine List.mem_cons_of_mem _ ?_)))); (case hs => assumption); (case hv => assumption); (case hd => ktr_room); (case hu => ktr_units)); intro zr9 zh9 ztk9 zF9 zhb9 zhr9; (have zN9 := newsStay (by assumption) zhb9); (try dsimp only)) | ((with_reducible show wpAny _ _ (call (Value.ref 479) [Value.ref 401, _, _]) _ _ _); (refine' heard_n_law ?B ?F ?X ?T ?hk ?XB ?TB ?N ?hg ?hs ?hh ?hd ?hu ?_; (case B => k_asm); (case F => k_asm); (case X => k_asm); (case T => k_asm); (case hk => first | exact rfl | assumption); (case XB => k_asm); (case TB => k_asm); (case N => k_asm); (case hg => (exact sub_news (by assumption) (by assumption) (by intro zx zhx; repeat (first | exact zhx | exact List.mem_append_left _ zhx | exact List.mem_append_right _ zhx | refine List.mem_cons_of_mem _ ?_)))); (case hs => assumption); (case hh => assumption); (case hd => ktr_room); (case hu => ktr_units)); intro zr9 zh9 ztk9 zW9 zF9 zhr9 zN9; (try dsimp only); refine Hold.out ?_) | ((with_reducible show wpAny _ _ (call (Value.ref 479) [Value.ref 394, _, _]) _ _ _); (refine' heard_w_law ?B ?F ?X ?T ?hk ?XB ?TB ?N ?hg ?hs ?hh ?hd ?hu ?_; (case B => k_asm); (case F => k_asm); (case X => k_asm); (case T => k_asm); (case hk => first | exact rfl | assumption); (case XB => k_asm); (case TB => k_asm); (case N => k_asm); (case hg => (exact sub_news (by assumption) (by assumption) (by intro zx zhx; repeat (first | exact zhx | exact List.mem_append_left _ zhx | exact List.mem_append_right _ zhx | refine List.mem_cons_of_mem _ ?_)))); (case hs => assumption); (case hh => assumption); (case hd => ktr_room); (case hu => ktr_units)); intro zr9 zh9 ztk9 zW9 zF9 zhr9 zN9; (try dsimp only); refine Hold.out ?_) | ((with_reducible show wpAny _ _ (call (Value.ref 465) [_, _]) _ _ _); (refine' counts_law ?B ?F ?X ?T ?hk ?N ?hg ?hs ?hv ?hd ?hu ?_; (case B => k_asm); (case F => k_asm); (case X => k_asm); (case T => k_asm); (case hk => first | exact rfl | assumption); (case N => k_asm); (case hg => (exact sub_news (by assumption) (by assumption) (by intro zx zhx; repeat (first | exact zhx | exact List.mem_append_left _ zhx | exact List.mem_append_right _ zhx | refine List.mem_cons_of_mem _ ?_)))); (case hs => assumption); (case hv => assumption); (case hd => ktr_room); (case hu => ktr_units)); intro zr9 zh9 ztk9 zW9 zF9 zhr9 zN9; (try dsimp only); refine Hold.out ?_) | ((with_reducible show wpAny _ _ (call (Value.ref 460) [_, _]) _ _ _); (refine' law_fetched_ok ?B ?F ?X ?T ?hk ?N ?hg ?hs ?hv ?hd ?hu ?_; (case B => k_asm); (case F => k_asm); (case X => k_asm); (case T => k_asm); (case hk => first | exact rfl | assumption); (case N => exact News.nil); (case hv => assumption); (case hs => assumption); (case hg => (first | exact Fr.keep (by assumption) | exact stays_trans (by assumption) (Fr.keep (by assumption)))); (case hd => ktr_room); (case hu => ktr_units)); intro zr9 zh9 ztk9 zF9 zhb9 zhr9; (have zN9 := newsStay (by assumption) zhb9); (try dsimp only)) | ((with_reducible show wpAny _ _ (call (Value.ref 472) [_]) _ _ _); (refine' law_is_count_ok ?B ?F ?X ?T ?hk ?N ?hv ?hd ?hu ?_; (case B => k_asm); (case F => k_asm); (case X => k_asm); (case T => k_asm); (case hk => first | exact rfl | assumption); (case N => exact News.nil); (case hv => (first | exact IsD.keeps (by assumption) (Fr.keep (by assumption)) | exact IsD.keeps (by assumption) (stays_trans (by assumption) (Fr.keep (by assumption))))); (case hd => ktr_room); (case hu => ktr_units)); intro zh9 ztk9 zF9 zhb9; (have zN9 := newsStay (by assumption) zhb9); (try dsimp only))); k_steps))
    unfold Hold
    rename IsCL _ _ (numsC _ _) => hr
    rw [hFL, hcc] at hr
    by_cases hodd : l.length % 2 = 1
    · rw [numsC_bad hodd] at hr
      obtain ⟨rfl, t8, rfl⟩ := hr
      simp only [List.cons_append, List.nil_append] at *
      (k_steps; repeat' ((refine Hold.mk ?_; first | ((with_reducible show wpAny _ _ (call (Value.ref 472) [_]) _ _ _); (refine' law_is_count_ok ?B ?F ?X ?T ?hk ?N ?hv ?hd ?hu ?_; (case B => k_asm); (case F => k_asm); (case X => k_asm); (case T => k_asm); (case hk => first | exact rfl | assumption); (case N => exact News.nil); (case hv => exact IsD.keeps (by assumption) (sub_news (by assumption) (by assumption) (by intro zx zhx; repeat (first | exact zhx | exact List.mem_append_left _ zhx | exact List.mem_append_right _ zhx | refine List.mem_cons_of_mem _ ?_)))); (case hd => ktr_room); (case hu => ktr_units)); intro zh9 ztk9 zF9 zhb9; (have zN9 := newsStay (by assumption) zhb9); (try dsimp only); refine Hold.out ?_) | ((with_reducible show wpAny _ _ (call (Value.ref 460) [_, _]) _ _ _); (refine' law_fetched_ok ?B ?F ?X ?T ?hk ?N ?hg ?hs ?hv ?hd ?hu ?_; (case B => k_asm); (case F => k_asm); (case X => k_asm); (case T => k_asm); (case hk => first | exact rfl | assumption); (case N => exact News.nil); (case hg => (exact sub_news (by assumption) (by assumption) (by intro zx zhx; repeat (first | exact zhx | exact List.mem_append_left _ zhx | exact List.mem_append_right _ zhx | refine List.mem_cons_of_mem _ ?_)))); (case hs => assumption); (case hv => assumption); (case hd => ktr_room); (case hu => ktr_units)); intro zr9 zh9 ztk9 zF9 zhb9 zhr9; (have zN9 := newsStay (by assumption) zhb9); (try dsimp only)) | ((with_reducible show wpAny _ _ (call (Value.ref 479) [Value.ref 401, _, _]) _ _ _); (refine' heard_n_law ?B ?F ?X ?T ?hk ?XB ?TB ?N ?hg ?hs ?hh ?hd ?hu ?_; (case B => k_asm); (case F => k_asm); (case X => k_asm); (case T => k_asm); (case hk => first | exact rfl | assumption); (case XB => k_asm); (case TB => k_asm); (case N => k_asm); (case hg => (exact sub_news (by assumption) (by assumption) (by intro zx zhx; repeat (first | exact zhx | exact List.mem_append_left _ zhx | exact List.mem_append_right _ zhx | refine List.mem_cons_of_mem _ ?_)))); (case hs => assumption); (case hh => assumption); (case hd => ktr_room); (case hu => ktr_units)); intro zr9 zh9 ztk9 zW9 zF9 zhr9 zN9; (try dsimp only); refine Hold.out ?_) | ((with_reducible show wpAny _ _ (call (Value.ref 479) [Value.ref 394, _, _]) _ _ _); (refine' heard_w_law ?B ?F ?X ?T ?hk ?XB ?TB ?N ?hg ?hs ?hh ?hd ?hu ?_; (case B => k_asm); (case F => k_asm); (case X => k_asm); (case T => k_asm); (case hk => first | exact rfl | assumption); (case XB => k_asm); (case TB => k_asm); (case N => k_asm); (case hg => (exact sub_news (by assumption) (by assumption) (by intro zx zhx; repeat (first | exact zhx | exact List.mem_append_left _ zhx | exact List.mem_append_right _ zhx | refine List.mem_cons_of_mem _ ?_)))); (case hs => assumption); (case hh => assumption); (case hd => ktr_room); (case hu => ktr_units)); intro zr9 zh9 ztk9 zW9 zF9 zhr9 zN9; (try dsimp only); refine Hold.out ?_) | ((with_reducible show wpAny _ _ (call (Value.ref 465) [_, _]) _ _ _); (refine' counts_law ?B ?F ?X ?T ?hk ?N ?hg ?hs ?hv ?hd ?hu ?_; (case B => k_asm); (case F => k_asm); (case X => k_asm); (case T => k_asm); (case hk => first | exact rfl | assumption); (case N => k_asm); (case hg => (exact sub_news (by assumption) (by assumption) (by intro zx zhx; repeat (first | exact zhx | exact List.mem_append_left _ zhx | exact List.mem_append_right _ zhx | refine List.mem_cons_of_mem _ ?_)))); (case hs => assumption); (case hv => assumption); (case hd => ktr_room); (case hu => ktr_units)); intro zr9 zh9 ztk9 zW9 zF9 zhr9 zN9; (try dsimp only); refine Hold.out ?_) | ((with_reducible show wpAny _ _ (call (Value.ref 460) [_, _]) _ _ _); (refine' law_fetched_ok ?B ?F ?X ?T ?hk ?N ?hg ?hs ?hv ?hd ?hu ?_; (case B => k_asm); (case F => k_asm); (case X => k_asm); (case T => k_asm); (case hk => first | exact rfl | assumption); (case N => exact News.nil); (case hv => assumption); (case hs => assumption); (case hg => (first | exact Fr.keep (by assumption) | exact stays_trans (by assumption) (Fr.keep (by assumption)))); (case hd => ktr_room); (case hu => ktr_units)); intro zr9 zh9 ztk9 zF9 zhb9 zhr9; (have zN9 := newsStay (by assumption) zhb9); (try dsimp only)) | ((with_reducible show wpAny _ _ (call (Value.ref 472) [_]) _ _ _); (refine' law_is_count_ok ?B ?F ?X ?T ?hk ?N ?hv ?hd ?hu ?_; (case B => k_asm); (case F => k_asm); (case X => k_asm); (case T => k_asm); (case hk => first | exact rfl | assumption); (case N => exact News.nil); (case hv => (first | exact IsD.keeps (by assumption) (Fr.keep (by assumption)) | exact IsD.keeps (by assumption) (stays_trans (by assumption) (Fr.keep (by assumption))))); (case hd => ktr_room); (case hu => ktr_units)); intro zh9 ztk9 zF9 zhb9; (have zN9 := newsStay (by assumption) zhb9); (try dsimp only))); k_steps))
      all_goals (first | (exfalso; omega) | (unfold AtEnd; dsimp only [Hold]; exact ret _ _ _ (by assumption) (news_sub (by assumption) (by intro x hx; repeat (first | exact hx | exact List.mem_append_left _ hx | exact List.mem_append_right _ hx | refine List.mem_cons_of_mem _ ?_))) (by rfl) (by rfl)))
    · rw [numsC_ok hodd] at hr
      obtain ⟨a8, vs8, n8, rfl, rfl, hi8, hl8⟩ := hr
      simp only [List.cons_append, List.nil_append] at *
      (k_steps; repeat' ((refine Hold.mk ?_; first | ((with_reducible show wpAny _ _ (call (Value.ref 472) [_]) _ _ _); (refine' law_is_count_ok ?B ?F ?X ?T ?hk ?N ?hv ?hd ?hu ?_; (case B => k_asm); (case F => k_asm); (case X => k_asm); (case T => k_asm); (case hk => first | exact rfl | assumption); (case N => exact News.nil); (case hv => exact IsD.keeps (by assumption) (sub_news (by assumption) (by assumption) (by intro zx zhx; repeat (first | exact zhx | exact List.mem_append_left _ zhx | exact List.mem_append_right _ zhx | refine List.mem_cons_of_mem _ ?_)))); (case hd => ktr_room); (case hu => ktr_units)); intro zh9 ztk9 zF9 zhb9; (have zN9 := newsStay (by assumption) zhb9); (try dsimp only); refine Hold.out ?_) | ((with_reducible show wpAny _ _ (call (Value.ref 460) [_, _]) _ _ _); (refine' law_fetched_ok ?B ?F ?X ?T ?hk ?N ?hg ?hs ?hv ?hd ?hu ?_; (case B => k_asm); (case F => k_asm); (case X => k_asm); (case T => k_asm); (case hk => first | exact rfl | assumption); (case N => exact News.nil); (case hg => (exact sub_news (by assumption) (by assumption) (by intro zx zhx; repeat (first | exact zhx | exact List.mem_append_left _ zhx | exact List.mem_append_right _ zhx | refine List.mem_cons_of_mem _ ?_)))); (case hs => assumption); (case hv => assumption); (case hd => ktr_room); (case hu => ktr_units)); intro zr9 zh9 ztk9 zF9 zhb9 zhr9; (have zN9 := newsStay (by assumption) zhb9); (try dsimp only)) | ((with_reducible show wpAny _ _ (call (Value.ref 479) [Value.ref 401, _, _]) _ _ _); (refine' heard_n_law ?B ?F ?X ?T ?hk ?XB ?TB ?N ?hg ?hs ?hh ?hd ?hu ?_; (case B => k_asm); (case F => k_asm); (case X => k_asm); (case T => k_asm); (case hk => first | exact rfl | assumption); (case XB => k_asm); (case TB => k_asm); (case N => k_asm); (case hg => (exact sub_news (by assumption) (by assumption) (by intro zx zhx; repeat (first | exact zhx | exact List.mem_append_left _ zhx | exact List.mem_append_right _ zhx | refine List.mem_cons_of_mem _ ?_)))); (case hs => assumption); (case hh => assumption); (case hd => ktr_room); (case hu => ktr_units)); intro zr9 zh9 ztk9 zW9 zF9 zhr9 zN9; (try dsimp only); refine Hold.out ?_) | ((with_reducible show wpAny _ _ (call (Value.ref 479) [Value.ref 394, _, _]) _ _ _); (refine' heard_w_law ?B ?F ?X ?T ?hk ?XB ?TB ?N ?hg ?hs ?hh ?hd ?hu ?_; (case B => k_asm); (case F => k_asm); (case X => k_asm); (case T => k_asm); (case hk => first | exact rfl | assumption); (case XB => k_asm); (case TB => k_asm); (case N => k_asm); (case hg => (exact sub_news (by assumption) (by assumption) (by intro zx zhx; repeat (first | exact zhx | exact List.mem_append_left _ zhx | exact List.mem_append_right _ zhx | refine List.mem_cons_of_mem _ ?_)))); (case hs => assumption); (case hh => assumption); (case hd => ktr_room); (case hu => ktr_units)); intro zr9 zh9 ztk9 zW9 zF9 zhr9 zN9; (try dsimp only); refine Hold.out ?_) | ((with_reducible show wpAny _ _ (call (Value.ref 465) [_, _]) _ _ _); (refine' counts_law ?B ?F ?X ?T ?hk ?N ?hg ?hs ?hv ?hd ?hu ?_; (case B => k_asm); (case F => k_asm); (case X => k_asm); (case T => k_asm); (case hk => first | exact rfl | assumption); (case N => k_asm); (case hg => (exact sub_news (by assumption) (by assumption) (by intro zx zhx; repeat (first | exact zhx | exact List.mem_append_left _ zhx | exact List.mem_append_right _ zhx | refine List.mem_cons_of_mem _ ?_)))); (case hs => assumption); (case hv => assumption); (case hd => ktr_room); (case hu => ktr_units)); intro zr9 zh9 ztk9 zW9 zF9 zhr9 zN9; (try dsimp only); refine Hold.out ?_) | ((with_reducible show wpAny _ _ (call (Value.ref 460) [_, _]) _ _ _); (refine' law_fetched_ok ?B ?F ?X ?T ?hk ?N ?hg ?hs ?hv ?hd ?hu ?_; (case B => k_asm); (case F => k_asm); (case X => k_asm); (case T => k_asm); (case hk => first | exact rfl | assumption); (case N => exact News.nil); (case hv => assumption); (case hs => assumption); (case hg => (first | exact Fr.keep (by assumption) | exact stays_trans (by assumption) (Fr.keep (by assumption)))); (case hd => ktr_room); (case hu => ktr_units)); intro zr9 zh9 ztk9 zF9 zhb9 zhr9; (have zN9 := newsStay (by assumption) zhb9); (try dsimp only)) | ((with_reducible show wpAny _ _ (call (Value.ref 472) [_]) _ _ _); (refine' law_is_count_ok ?B ?F ?X ?T ?hk ?N ?hv ?hd ?hu ?_; (case B => k_asm); (case F => k_asm); (case X => k_asm); (case T => k_asm); (case hk => first | exact rfl | assumption); (case N => exact News.nil); (case hv => (first | exact IsD.keeps (by assumption) (Fr.keep (by assumption)) | exact IsD.keeps (by assumption) (stays_trans (by assumption) (Fr.keep (by assumption))))); (case hd => ktr_room); (case hu => ktr_units)); intro zh9 ztk9 zF9 zhb9; (have zN9 := newsStay (by assumption) zhb9); (try dsimp only))); k_steps))
      all_goals (first | (exfalso; omega) | (unfold AtEnd; dsimp only [Hold]; exact ret _ _ _ (by assumption) (news_sub (by assumption) (by intro x hx; repeat (first | exact hx | exact List.mem_append_left _ hx | exact List.mem_append_right _ hx | refine List.mem_cons_of_mem _ ?_))) (by rfl) (by rfl)))

set_option maxRecDepth 100000
set_option maxHeartbeats 8000000
theorem isStream_of {h₀ h : Heap} {L x dx t : Addr} {es : List DictEntry} {n : Nat} {news : List (Addr × Obj)} (N : News h₀ L h news) (h1 : (x, instObj 233 dx) ∈ news) (h2 : (dx, dictOf es n) ∈ news) (h3 : getL "head" es = some (some (.ref t))) : IsStream h (.ref x) t := ⟨x, dx, es, n, rfl, (N _ h1).1, (N _ h2).1, h3⟩
theorem isi_namH {w : World} {A : Around} {E Q : Value → Shared → Prop} {s : Shared} {g : Heap} {L : Addr} {m : Str → Option Value} {v : Value} {d : D} (F : Fr g L s.heap m) (X : (hd.heap_1 w.params).In g) (hv : IsD s.heap v d) (h : ∀ tk, Q (.bool (d.isi "nam")) { s with toks := tk }) : wpAny (model PySem.Challenge.rw_nn0123_01.row.prog w) A (call (.builtin "isinstance") [v, .ref 190]) Q E s := by
  revert X; k_fill; intro X
  cases d with
  | p p => cases p with
    | none => cases hv; walk1; exact h _
    | bool b => cases hv; walk1; exact h _
    | int i => obtain ⟨t, rfl⟩ := hv; walk1; exact h _
    | str i => obtain ⟨t, rfl⟩ := hv; walk1; exact h _
    | dec => obtain ⟨a, dx, od, rfl, h1, h2⟩ := hv; walk1; exact h _
    | ref n => obtain ⟨a, dx, es, k', t, t', rfl, h1, h2, h3, h4⟩ := hv; walk1; exact h _
    | name n => obtain ⟨a, dx, es, k', t, rfl, h1, h2, h3⟩ := hv; walk1; exact h _
  | list ps => obtain ⟨a, vs, n, rfl, h1, h2⟩ := hv; walk1; exact h _
  | emp => obtain ⟨a, n, rfl, h1⟩ := hv; walk1; exact h _
section
local macro_rules | `(tactic| k_enter) => `(tactic| kcf_m)
local macro_rules | `(tactic| walk_at "call builtin:isinstance") => `(tactic| (k_here; (with_reducible show wpAny _ _ (call _ [_, Value.ref 190]) _ _ _); k_dflt (refine' isi_namH ?F ?X ?v ?_; (case F => k_asm); (case X => k_asm); (case v => exact IsD.keeps (by assumption) (by kas_types))); (intro tk; refine Hold.out ?_)))
local macro_rules | `(tactic| walk_at "call ref") => `(tactic| refine holdAt 415 ?_)
theorem g3_ok {w : World} {mean : ExcName → Option Value} {mg mb : Str → Option Value} {h₀ : Heap} {L fa : Addr} {cd : Value} {m : Str → Option Value} {s : Shared} {E : Value → Shared → Prop} {P : Shared → Prop} {g : Heap} {R : List (Addr × Obj)} {c5 c4 c3 c2 c1 : Obj} {t hd' : Addr} {sv : Value} {T' : List (Int × D)} {H : List (Str × D)}
    (B : Below callerA h₀ [] h₀) (F : Fr h₀ L s.heap m) (X : (hd.heap_1 w.params).In h₀) (T : Top view (looseW view looseN) mean mg mb h₀)
    (N : News h₀ L s.heap ((L + 5, c5) :: (L + 4, c4) :: (L + 3, c3) :: (L + 2, c2) :: (L + 1, c1) :: R)) (hgR : ∀ b o, g.get? b = some o → (b, o) ∈ R)
    (d4 : c4.data = .cell (some (.ref hd'))) (d2 : c2.data = .cell (some sv)) (d1 : c1.data = .cell (some (.ref t)))
    (hT : IsTabL w g t T') (hsv : IsShelf w g sv T') (hh : IsHead w g hd' H) (hFL : fetchK T' 30 = lawF T' 9)
    
    (ret : ∀ h' tk' m', Fr h₀ L h' m' → News h₀ L h' ((L + 5, c5) :: (L + 4, c4) :: (L + 3, c3) :: (L + 2, c2) :: (L + 1, c1) :: R) → m' (Str.ofString "rows") = m (Str.ofString "rows") → m' (Str.ofString "pen") = m (Str.ofString "pen") → P { s with heap := h', toks := tk' }) :
    wpAny (model PySem.Challenge.rw_nn0123_01.row.prog w) (callerA.deeper (envOfC (Str.ofString "law") (lawS w) L fa cd)) (execs (((turnB w).drop 10).take 3) (envOfC (Str.ofString "law") (lawS w) L fa cd)) (AtEnd P) E s := by
  revert X; k_fill; intro X
  have e1 : turnB w = [_, _, _, _, _, _, _, _, _, _, _, _, _, _, _, _] := rfl
  have e2 : lawS w = ⟨_, _, _, _, _⟩ := rfl
  rw [e1, e2]
  dsimp only [List.drop, List.take]
  clear e1 e2
  (try k_fold)
  (k_steps; repeat' ((refine Hold.mk ?_; first | ((with_reducible show wpAny _ _ (call (Value.ref 415) [_, Value.ref _]) _ _ _); (refine' is_cross_no ?B ?F ?X ?T ?hk ?N ?hg ?hh ?hd ?hu ?_; (case B => k_asm); (case F => k_asm); (case X => k_asm); (case T => k_asm); (case hk => first | exact rfl | assumption); (case N => exact News.nil); (case hg => (exact sub_news (by assumption) (by assumption) (by intro zx zhx; repeat (first | exact zhx | exact List.mem_append_left _ zhx | exact List.mem_append_right _ zhx | refine List.mem_cons_of_mem _ ?_)))); (case hh => assumption); (case hd => ktr_room); (case hu => ktr_units)); intro zh9 ztk9 zF9 zhb9; (have zN9 := newsStay (by assumption) zhb9); (try dsimp only)) | ((with_reducible show wpAny _ _ (call (Value.ref 415) [_, _]) _ _ _); (refine' is_cross_ok ?B ?F ?X ?T ?hk ?N ?hg ?hsv ?hh ?hv ?hd ?hu ?_; (case B => k_asm); (case F => k_asm); (case X => k_asm); (case T => k_asm); (case hk => first | exact rfl | assumption); (case N => exact News.nil); (case hg => exact fun _ _ e => e); (case hsv => exact IsShelf.keeps (sub_news (by assumption) (by assumption) (by intro zx zhx; repeat (first | exact zhx | exact List.mem_append_left _ zhx | exact List.mem_append_right _ zhx | refine List.mem_cons_of_mem _ ?_))) (by assumption)); (case hh => exact IsHead.keeps (sub_news (by assumption) (by assumption) (by intro zx zhx; repeat (first | exact zhx | exact List.mem_append_left _ zhx | exact List.mem_append_right _ zhx | refine List.mem_cons_of_mem _ ?_))) (by assumption)); (case hv => exact isStream_of (by assumption) (by k_mem) (by k_mem) (by rfl)); (case hd => ktr_room); (case hu => ktr_units)); intro zh9 ztk9 zF9 zhb9; (have zN9 := newsStay (by assumption) zhb9); (try dsimp only); refine Hold.out ?_) | ((with_reducible show wpAny _ _ (call (Value.ref 460) [_, _]) _ _ _); (refine' law_fetched_ok ?B ?F ?X ?T ?hk ?N ?hg ?hs ?hv ?hd ?hu ?_; (case B => k_asm); (case F => k_asm); (case X => k_asm); (case T => k_asm); (case hk => first | exact rfl | assumption); (case N => exact News.nil); (case hg => (exact sub_news (by assumption) (by assumption) (by intro zx zhx; repeat (first | exact zhx | exact List.mem_append_left _ zhx | exact List.mem_append_right _ zhx | refine List.mem_cons_of_mem _ ?_)))); (case hs => assumption); (case hv => assumption); (case hd => ktr_room); (case hu => ktr_units)); intro zr9 zh9 ztk9 zF9 zhb9 zhr9; (have zN9 := newsStay (by assumption) zhb9); (try dsimp only)) | ((with_reducible show wpAny _ _ (call (Value.ref 460) [_, _]) _ _ _); (refine' law_fetched_ok ?B ?F ?X ?T ?hk ?N ?hg ?hs ?hv ?hd ?hu ?_; (case B => k_asm); (case F => k_asm); (case X => k_asm); (case T => k_asm); (case hk => first | exact rfl | assumption); (case N => exact News.nil); (case hv => assumption); (case hs => assumption); (case hg => (first | exact Fr.keep (by assumption) | exact stays_trans (by assumption) (Fr.keep (by assumption)))); (case hd => ktr_room); (case hu => ktr_units)); intro zr9 zh9 ztk9 zF9 zhb9 zhr9; (have zN9 := newsStay (by assumption) zhb9); (try dsimp only))); k_steps))
  unfold Hold
  rename IsD g _ (lawF _ _ (headAt H (Str.ofString "Type"))) => hz
  cases hb : (lawF T' 9 (headAt H (Str.ofString "Type"))).isi "nam" with
  | false =>
    (k_steps; repeat' ((refine Hold.mk ?_; first | ((with_reducible show wpAny _ _ (call (Value.ref 415) [_, Value.ref _]) _ _ _); (refine' is_cross_no ?B ?F ?X ?T ?hk ?N ?hg ?hh ?hd ?hu ?_; (case B => k_asm); (case F => k_asm); (case X => k_asm); (case T => k_asm); (case hk => first | exact rfl | assumption); (case N => exact News.nil); (case hg => (exact sub_news (by assumption) (by assumption) (by intro zx zhx; repeat (first | exact zhx | exact List.mem_append_left _ zhx | exact List.mem_append_right _ zhx | refine List.mem_cons_of_mem _ ?_)))); (case hh => assumption); (case hd => ktr_room); (case hu => ktr_units)); intro zh9 ztk9 zF9 zhb9; (have zN9 := newsStay (by assumption) zhb9); (try dsimp only)) | ((with_reducible show wpAny _ _ (call (Value.ref 415) [_, _]) _ _ _); (refine' is_cross_ok ?B ?F ?X ?T ?hk ?N ?hg ?hsv ?hh ?hv ?hd ?hu ?_; (case B => k_asm); (case F => k_asm); (case X => k_asm); (case T => k_asm); (case hk => first | exact rfl | assumption); (case N => exact News.nil); (case hg => exact fun _ _ e => e); (case hsv => exact IsShelf.keeps (sub_news (by assumption) (by assumption) (by intro zx zhx; repeat (first | exact zhx | exact List.mem_append_left _ zhx | exact List.mem_append_right _ zhx | refine List.mem_cons_of_mem _ ?_))) (by assumption)); (case hh => exact IsHead.keeps (sub_news (by assumption) (by assumption) (by intro zx zhx; repeat (first | exact zhx | exact List.mem_append_left _ zhx | exact List.mem_append_right _ zhx | refine List.mem_cons_of_mem _ ?_))) (by assumption)); (case hv => exact isStream_of (by assumption) (by k_mem) (by k_mem) (by rfl)); (case hd => ktr_room); (case hu => ktr_units)); intro zh9 ztk9 zF9 zhb9; (have zN9 := newsStay (by assumption) zhb9); (try dsimp only); refine Hold.out ?_) | ((with_reducible show wpAny _ _ (call (Value.ref 460) [_, _]) _ _ _); (refine' law_fetched_ok ?B ?F ?X ?T ?hk ?N ?hg ?hs ?hv ?hd ?hu ?_; (case B => k_asm); (case F => k_asm); (case X => k_asm); (case T => k_asm); (case hk => first | exact rfl | assumption); (case N => exact News.nil); (case hg => (exact sub_news (by assumption) (by assumption) (by intro zx zhx; repeat (first | exact zhx | exact List.mem_append_left _ zhx | exact List.mem_append_right _ zhx | refine List.mem_cons_of_mem _ ?_)))); (case hs => assumption); (case hv => assumption); (case hd => ktr_room); (case hu => ktr_units)); intro zr9 zh9 ztk9 zF9 zhb9 zhr9; (have zN9 := newsStay (by assumption) zhb9); (try dsimp only)) | ((with_reducible show wpAny _ _ (call (Value.ref 460) [_, _]) _ _ _); (refine' law_fetched_ok ?B ?F ?X ?T ?hk ?N ?hg ?hs ?hv ?hd ?hu ?_; (case B => k_asm); (case F => k_asm); (case X => k_asm); (case T => k_asm); (case hk => first | exact rfl | assumption); (case N => exact News.nil); (case hv => assumption); (case hs => assumption); (case hg => (first | exact Fr.keep (by assumption) | exact stays_trans (by assumption) (Fr.keep (by assumption)))); (case hd => ktr_room); (case hu => ktr_units)); intro zr9 zh9 ztk9 zF9 zhb9 zhr9; (have zN9 := newsStay (by assumption) zhb9); (try dsimp only))); k_steps))
    unfold Hold
    simp only [hFL, isX_no hb]
    (k_steps; repeat' ((refine Hold.mk ?_; first | ((with_reducible show wpAny _ _ (call (Value.ref 415) [_, Value.ref _]) _ _ _); (refine' is_cross_no ?B ?F ?X ?T ?hk ?N ?hg ?hh ?hd ?hu ?_; (case B => k_asm); (case F => k_asm); (case X => k_asm); (case T => k_asm); (case hk => first | exact rfl | assumption); (case N => exact News.nil); (case hg => (exact sub_news (by assumption) (by assumption) (by intro zx zhx; repeat (first | exact zhx | exact List.mem_append_left _ zhx | exact List.mem_append_right _ zhx | refine List.mem_cons_of_mem _ ?_)))); (case hh => assumption); (case hd => ktr_room); (case hu => ktr_units)); intro zh9 ztk9 zF9 zhb9; (have zN9 := newsStay (by assumption) zhb9); (try dsimp only)) | ((with_reducible show wpAny _ _ (call (Value.ref 415) [_, _]) _ _ _); (refine' is_cross_ok ?B ?F ?X ?T ?hk ?N ?hg ?hsv ?hh ?hv ?hd ?hu ?_; (case B => k_asm); (case F => k_asm); (case X => k_asm); (case T => k_asm); (case hk => first | exact rfl | assumption); (case N => exact News.nil); (case hg => exact fun _ _ e => e); (case hsv => exact IsShelf.keeps (sub_news (by assumption) (by assumption) (by intro zx zhx; repeat (first | exact zhx | exact List.mem_append_left _ zhx | exact List.mem_append_right _ zhx | refine List.mem_cons_of_mem _ ?_))) (by assumption)); (case hh => exact IsHead.keeps (sub_news (by assumption) (by assumption) (by intro zx zhx; repeat (first | exact zhx | exact List.mem_append_left _ zhx | exact List.mem_append_right _ zhx | refine List.mem_cons_of_mem _ ?_))) (by assumption)); (case hv => exact isStream_of (by assumption) (by k_mem) (by k_mem) (by rfl)); (case hd => ktr_room); (case hu => ktr_units)); intro zh9 ztk9 zF9 zhb9; (have zN9 := newsStay (by assumption) zhb9); (try dsimp only); refine Hold.out ?_) | ((with_reducible show wpAny _ _ (call (Value.ref 460) [_, _]) _ _ _); (refine' law_fetched_ok ?B ?F ?X ?T ?hk ?N ?hg ?hs ?hv ?hd ?hu ?_; (case B => k_asm); (case F => k_asm); (case X => k_asm); (case T => k_asm); (case hk => first | exact rfl | assumption); (case N => exact News.nil); (case hg => (exact sub_news (by assumption) (by assumption) (by intro zx zhx; repeat (first | exact zhx | exact List.mem_append_left _ zhx | exact List.mem_append_right _ zhx | refine List.mem_cons_of_mem _ ?_)))); (case hs => assumption); (case hv => assumption); (case hd => ktr_room); (case hu => ktr_units)); intro zr9 zh9 ztk9 zF9 zhb9 zhr9; (have zN9 := newsStay (by assumption) zhb9); (try dsimp only)) | ((with_reducible show wpAny _ _ (call (Value.ref 460) [_, _]) _ _ _); (refine' law_fetched_ok ?B ?F ?X ?T ?hk ?N ?hg ?hs ?hv ?hd ?hu ?_; (case B => k_asm); (case F => k_asm); (case X => k_asm); (case T => k_asm); (case hk => first | exact rfl | assumption); (case N => exact News.nil); (case hv => assumption); (case hs => assumption); (case hg => (first | exact Fr.keep (by assumption) | exact stays_trans (by assumption) (Fr.keep (by assumption)))); (case hd => ktr_room); (case hu => ktr_units)); intro zr9 zh9 ztk9 zF9 zhb9 zhr9; (have zN9 := newsStay (by assumption) zhb9); (try dsimp only))); k_steps))
    all_goals (unfold AtEnd; dsimp only [Hold]; exact ret _ _ _ (by assumption) (news_sub (by assumption) (by intro x hx; repeat (first | exact hx | exact List.mem_append_left _ hx | exact List.mem_append_right _ hx | refine List.mem_cons_of_mem _ ?_))) (by rfl) (by rfl))
  | true =>
    obtain ⟨x, hx⟩ := nam_name hb
    rw [hx] at hz
    obtain ⟨z, dz, es3, k3, t3, rfl, r1, r2, r3⟩ := hz
    rename News h₀ _ _ _ => Nz
    have r1s := sub_news Nz hgR (by intro x hx; repeat (first | exact hx | exact List.mem_append_left _ hx | exact List.mem_append_right _ hx | refine List.mem_cons_of_mem _ ?_)) _ _ r1
    have r2s := sub_news Nz hgR (by intro x hx; repeat (first | exact hx | exact List.mem_append_left _ hx | exact List.mem_append_right _ hx | refine List.mem_cons_of_mem _ ?_)) _ _ r2
    (k_steps; repeat' ((refine Hold.mk ?_; first | ((with_reducible show wpAny _ _ (call (Value.ref 415) [_, Value.ref _]) _ _ _); (refine' is_cross_no ?B ?F ?X ?T ?hk ?N ?hg ?hh ?hd ?hu ?_; (case B => k_asm); (case F => k_asm); (case X => k_asm); (case T => k_asm); (case hk => first | exact rfl | assumption); (case N => exact News.nil); (case hg => (exact sub_news (by assumption) (by assumption) (by intro zx zhx; repeat (first | exact zhx | exact List.mem_append_left _ zhx | exact List.mem_append_right _ zhx | refine List.mem_cons_of_mem _ ?_)))); (case hh => assumption); (case hd => ktr_room); (case hu => ktr_units)); intro zh9 ztk9 zF9 zhb9; (have zN9 := newsStay (by assumption) zhb9); (try dsimp only)) | ((with_reducible show wpAny _ _ (call (Value.ref 415) [_, _]) _ _ _); (refine' is_cross_ok ?B ?F ?X ?T ?hk ?N ?hg ?hsv ?hh ?hv ?hd ?hu ?_; (case B => k_asm); (case F => k_asm); (case X => k_asm); (case T => k_asm); (case hk => first | exact rfl | assumption); (case N => exact News.nil); (case hg => exact fun _ _ e => e); (case hsv => exact IsShelf.keeps (sub_news (by assumption) (by assumption) (by intro zx zhx; repeat (first | exact zhx | exact List.mem_append_left _ zhx | exact List.mem_append_right _ zhx | refine List.mem_cons_of_mem _ ?_))) (by assumption)); (case hh => exact IsHead.keeps (sub_news (by assumption) (by assumption) (by intro zx zhx; repeat (first | exact zhx | exact List.mem_append_left _ zhx | exact List.mem_append_right _ zhx | refine List.mem_cons_of_mem _ ?_))) (by assumption)); (case hv => exact isStream_of (by assumption) (by k_mem) (by k_mem) (by rfl)); (case hd => ktr_room); (case hu => ktr_units)); intro zh9 ztk9 zF9 zhb9; (have zN9 := newsStay (by assumption) zhb9); (try dsimp only); refine Hold.out ?_) | ((with_reducible show wpAny _ _ (call (Value.ref 460) [_, _]) _ _ _); (refine' law_fetched_ok ?B ?F ?X ?T ?hk ?N ?hg ?hs ?hv ?hd ?hu ?_; (case B => k_asm); (case F => k_asm); (case X => k_asm); (case T => k_asm); (case hk => first | exact rfl | assumption); (case N => exact News.nil); (case hg => (exact sub_news (by assumption) (by assumption) (by intro zx zhx; repeat (first | exact zhx | exact List.mem_append_left _ zhx | exact List.mem_append_right _ zhx | refine List.mem_cons_of_mem _ ?_)))); (case hs => assumption); (case hv => assumption); (case hd => ktr_room); (case hu => ktr_units)); intro zr9 zh9 ztk9 zF9 zhb9 zhr9; (have zN9 := newsStay (by assumption) zhb9); (try dsimp only)) | ((with_reducible show wpAny _ _ (call (Value.ref 460) [_, _]) _ _ _); (refine' law_fetched_ok ?B ?F ?X ?T ?hk ?N ?hg ?hs ?hv ?hd ?hu ?_; (case B => k_asm); (case F => k_asm); (case X => k_asm); (case T => k_asm); (case hk => first | exact rfl | assumption); (case N => exact News.nil); (case hv => assumption); (case hs => assumption); (case hg => (first | exact Fr.keep (by assumption) | exact stays_trans (by assumption) (Fr.keep (by assumption)))); (case hd => ktr_room); (case hu => ktr_units)); intro zr9 zh9 ztk9 zF9 zhb9 zhr9; (have zN9 := newsStay (by assumption) zhb9); (try dsimp only))); k_steps))
    unfold Hold
    simp only [hFL, hx, isX]
    (k_steps; repeat' ((refine Hold.mk ?_; first | ((with_reducible show wpAny _ _ (call (Value.ref 415) [_, Value.ref _]) _ _ _); (refine' is_cross_no ?B ?F ?X ?T ?hk ?N ?hg ?hh ?hd ?hu ?_; (case B => k_asm); (case F => k_asm); (case X => k_asm); (case T => k_asm); (case hk => first | exact rfl | assumption); (case N => exact News.nil); (case hg => (exact sub_news (by assumption) (by assumption) (by intro zx zhx; repeat (first | exact zhx | exact List.mem_append_left _ zhx | exact List.mem_append_right _ zhx | refine List.mem_cons_of_mem _ ?_)))); (case hh => assumption); (case hd => ktr_room); (case hu => ktr_units)); intro zh9 ztk9 zF9 zhb9; (have zN9 := newsStay (by assumption) zhb9); (try dsimp only)) | ((with_reducible show wpAny _ _ (call (Value.ref 415) [_, _]) _ _ _); (refine' is_cross_ok ?B ?F ?X ?T ?hk ?N ?hg ?hsv ?hh ?hv ?hd ?hu ?_; (case B => k_asm); (case F => k_asm); (case X => k_asm); (case T => k_asm); (case hk => first | exact rfl | assumption); (case N => exact News.nil); (case hg => exact fun _ _ e => e); (case hsv => exact IsShelf.keeps (sub_news (by assumption) (by assumption) (by intro zx zhx; repeat (first | exact zhx | exact List.mem_append_left _ zhx | exact List.mem_append_right _ zhx | refine List.mem_cons_of_mem _ ?_))) (by assumption)); (case hh => exact IsHead.keeps (sub_news (by assumption) (by assumption) (by intro zx zhx; repeat (first | exact zhx | exact List.mem_append_left _ zhx | exact List.mem_append_right _ zhx | refine List.mem_cons_of_mem _ ?_))) (by assumption)); (case hv => exact isStream_of (by assumption) (by k_mem) (by k_mem) (by rfl)); (case hd => ktr_room); (case hu => ktr_units)); intro zh9 ztk9 zF9 zhb9; (have zN9 := newsStay (by assumption) zhb9); (try dsimp only); refine Hold.out ?_) | ((with_reducible show wpAny _ _ (call (Value.ref 460) [_, _]) _ _ _); (refine' law_fetched_ok ?B ?F ?X ?T ?hk ?N ?hg ?hs ?hv ?hd ?hu ?_; (case B => k_asm); (case F => k_asm); (case X => k_asm); (case T => k_asm); (case hk => first | exact rfl | assumption); (case N => exact News.nil); (case hg => (exact sub_news (by assumption) (by assumption) (by intro zx zhx; repeat (first | exact zhx | exact List.mem_append_left _ zhx | exact List.mem_append_right _ zhx | refine List.mem_cons_of_mem _ ?_)))); (case hs => assumption); (case hv => assumption); (case hd => ktr_room); (case hu => ktr_units)); intro zr9 zh9 ztk9 zF9 zhb9 zhr9; (have zN9 := newsStay (by assumption) zhb9); (try dsimp only)) | ((with_reducible show wpAny _ _ (call (Value.ref 460) [_, _]) _ _ _); (refine' law_fetched_ok ?B ?F ?X ?T ?hk ?N ?hg ?hs ?hv ?hd ?hu ?_; (case B => k_asm); (case F => k_asm); (case X => k_asm); (case T => k_asm); (case hk => first | exact rfl | assumption); (case N => exact News.nil); (case hv => assumption); (case hs => assumption); (case hg => (first | exact Fr.keep (by assumption) | exact stays_trans (by assumption) (Fr.keep (by assumption)))); (case hd => ktr_room); (case hu => ktr_units)); intro zr9 zh9 ztk9 zF9 zhb9 zhr9; (have zN9 := newsStay (by assumption) zhb9); (try dsimp only))); k_steps))
    all_goals (first | (exfalso; rename _ = true => hq; simp at hq; done) | (exfalso; rename ¬ _ = _ => hq; exact hq rfl) | (unfold AtEnd; dsimp only [Hold]; exact ret _ _ _ (by assumption) (news_sub (by assumption) (by intro x hx; repeat (first | exact hx | exact List.mem_append_left _ hx | exact List.mem_append_right _ hx | refine List.mem_cons_of_mem _ ?_))) (by rfl) (by rfl)))
end

set_option maxRecDepth 100000
set_option maxHeartbeats 8000000
section
variable {prog : Program} {w : World} {K : Type} [DecidableEq K] {A : Around} {E : Value → Shared → Prop} {s : Shared} {h₀ : Heap} {L : Addr} {m : Str → Option Value} {env : Env}
noncomputable def SrcD (knd : KeyKind prog w K) (A : Around) (h₀ : Heap) (L : Addr) (m : Str → Option Value) (env : Env) (elt : Expr) (x : Str) (scope : Scope) (cl : List (Str × Addr)) (Fin : Shared → List Value → List (Addr × Obj) → Prop) (xv : Value) (s₁ : Shared) : Prop :=
  ∃ d od kvs news, xv = .ref d ∧ A.handled = none ∧ Fr h₀ L s₁.heap m ∧ News h₀ L s₁.heap news ∧ (d, od) ∈ news ∧ od.IsDictOf knd kvs ∧ (d == sysModules) = false ∧ kvs.length ≤ sizeLine ∧
    ∀ s₂ : Shared, (∃ h, s₂ = { s₁ with heap := h }) → CompRest prog w A h₀ L m env elt x scope cl s₂ (fun nw => (d, od) ∈ nw) (fun i v => ∃ k y, kvs[i]? = some (k, y) ∧ knd.is k v = true) (Fin s₂) kvs.length 0 [] news
noncomputable def SrcDT (knd : KeyKind prog w K) (A : Around) (h₀ : Heap) (L : Addr) (m : Str → Option Value) (env : Env) (ct elt : Expr) (x : Str) (scope : Scope) (cl : List (Str × Addr)) (Fin : Shared → List Value → List (Addr × Obj) → Prop) (xv : Value) (s₁ : Shared) : Prop :=
  ∃ d od kvs news, xv = .ref d ∧ A.handled = none ∧ Fr h₀ L s₁.heap m ∧ News h₀ L s₁.heap news ∧ (d, od) ∈ news ∧ od.IsDictOf knd kvs ∧ (d == sysModules) = false ∧ kvs.length ≤ sizeLine ∧
    ∀ s₂ : Shared, (∃ h, s₂ = { s₁ with heap := h }) → CompRestT prog w A h₀ L m env ct elt x scope cl s₂ (fun nw => (d, od) ∈ nw) (fun i v => ∃ k y, kvs[i]? = some (k, y) ∧ knd.is k v = true) (Fin s₂) kvs.length 0 [] news
theorem dict_go (knd : KeyKind prog w K) {s₁ : Shared} {d : Addr} {od : Obj} {kvs : List (K × Value)} (hh : A.handled = none) (here : s₁.heap.get? d = some od) (hd : od.IsDictOf knd kvs) (lo : (d == sysModules) = false) :
    ∃ (it : Obj) (fp : List Addr) (St : Nat → Heap → Prop), (∀ (Q : Value → Shared → Prop) (E' : Value → Shared → Prop), Q (.ref s₁.heap.objs.size) { s₁ with heap := s₁.heap.push it } → wpAny (model prog w) A (pyIter (.ref d)) Q E' s₁) ∧
      Walks prog w A s₁.heap.objs.size fp [s₁.heap.objs.size] kvs.length (fun i v => ∃ k y, kvs[i]? = some (k, y) ∧ knd.is k v = true) St ∧ (∀ i h, St i h → ∃ o, h.get? s₁.heap.objs.size = some o) ∧
      (∀ i h h' o, St i h → h.get? s₁.heap.objs.size = some o → h'.get? s₁.heap.objs.size = some o → h'.get? d = some od → St i h') ∧ St 0 (s₁.heap.push it) ∧ ∀ b ∈ fp, b < (s₁.heap.push it).objs.size := by
  obtain ⟨ep, at_⟩ := KdkAt.of hd
  have lt := Heap.lt_size here
  refine ⟨_, _, _, fun Q E' q => wpAny_pyIter_dict lo (at_.dictAt here) q, Walks.dictKeys hh _ d (Nat.ne_of_lt lt) kvs ep, ?_, ?_, ⟨⟨_, Heap.get?_push_size _ rfl, rfl, rfl⟩, at_.dictAt (Heap.get?_push_of_some _ here)⟩, ?_⟩
  · rintro i h ⟨⟨o, e, _⟩, _⟩
    exact ⟨o, e⟩
  · rintro i h h' o ⟨⟨x, e, r⟩, _⟩ e1 e2 e3
    obtain rfl : x = o := Option.some.inj (e.symm.trans e1)
    exact ⟨⟨x, e2, r⟩, at_.dictAt e3⟩
  · intro b hb
    rw [Heap.size_push]
    simp only [List.mem_cons, List.not_mem_nil, or_false] at hb
    rcases hb with rfl | rfl
    · exact Nat.lt_succ_self _
    · exact Nat.lt_succ_of_lt lt

noncomputable def AtDone (h₀ : Heap) (L : Addr) (m : Str → Option Value) (s₁ : Shared) (Fin : Shared → List Value → List (Addr × Obj) → Prop) (RR : Value → Addr → Result → Shared → Prop) : Prop :=
  ∀ s₂ D C h tk mc ys nw, (∃ h', s₂ = { s₁ with heap := h' }) → Fr h₀ L h m → News h₀ L h ((D, lst ys) :: nw) → Off1 D nw → h.Ns C mc → h₀.get? C = none → h₀.get? D = none → C ≠ L → D ≠ L → C ≠ D → (∀ p ∈ nw, p.1 ≠ C) → Fin s₂ ys nw →
    RR (.ref D) C (.ok .next) { s₂ with heap := h, toks := tk }
theorem apartC {C D : Addr} {ys : List Value} {nw : List (Addr × Obj)} (cd : C ≠ D) (off : ∀ p ∈ nw, p.1 ≠ C) : ∀ p ∈ (D, lst ys) :: nw, p.1 ≠ C := fun p hp => by
  cases hp with
  | head => exact Ne.symm cd
  | tail _ hp => exact off p hp
theorem dropC {h h'' : Heap} {C : Addr} {m' : Str → Option Value} {nw : List (Addr × Obj)} (F : Fr h₀ L h m') (N : News h₀ L h nw) (e : h₀.get? C = none) (cl : C ≠ L) (off : ∀ p ∈ nw, p.1 ≠ C) (hs : h.SameBut C h'') : Fr h₀ L h'' m' ∧ News h₀ L h'' nw :=
  ⟨F.change hs cl e, fun p hp => ⟨hs.extBut _ _ (off p hp) (N p hp).1, (N p hp).2⟩⟩
theorem done_value {s₁ : Shared} {Q : Value → Shared → Prop} : AtDone h₀ L m s₁ (fun s₂ => FinE h₀ L m s₂ Q) (compPost (model prog w) A E none Q) := by
  intro s₂ D C h tk mc ys nw _ F N off hn c0 _ cl _ cd offC fin
  refine ⟨mc, hn, fun h'' hs => ?_⟩
  have ⟨F', N'⟩ := dropC F N c0 cl (apartC cd offC) hs
  exact fin D h'' tk F' N' off
theorem done_name {s₁ : Shared} {y : Str} {py : Pos} {Q : Flow → Shared → Prop} (hL : env.locals = L) (hy : env.kindOf y = some .local) (hp : (env.scope.kind == .class || (env.scope.kind == .module && env.locals != env.globals)) = false) :
    AtDone h₀ L m s₁ (fun s₂ => FinA h₀ L m s₂ y Q) (compPost (model prog w) A E (some (assign (.Name y py) env)) fun _ s' => Q .next s') := by
  subst hL
  intro s₂ D C h tk mc ys nw _ F N off hn c0 _ cl _ cd offC fin
  refine wpAny_assign_Name (wpAny_storeName_local hy F.ns (fun h₂ ns₂ hs₂ => ?_) hp)
  have low : h₀.get? env.locals = none := Heap.get?_none_of_le F.above
  have F₂ : Fr h₀ env.locals h₂ _ := ⟨ns₂, fun b o e => hs₂.extBut b o (by rintro rfl; rw [low] at e; cases e) (F.keep b o e), F.above⟩
  have N₂ : News h₀ env.locals h₂ ((D, lst ys) :: nw) := fun p hp => ⟨hs₂.extBut _ _ (N p hp).2.1 (N p hp).1, (N p hp).2⟩
  refine ⟨mc, hn.sameBut hs₂ cl, fun h'' hs => ?_⟩
  have ⟨F', N'⟩ := dropC F₂ N₂ c0 cl (apartC cd offC) hs
  exact fin D h'' _ F' N' off
theorem turns_D (knd : KeyKind prog w K) {elt iter : Expr} {x : Str} {px : Pos} {scope : Scope} {cl : List (Str × Addr)} {pos : Pos} {Fin : Shared → List Value → List (Addr × Obj) → Prop} {RR : Value → Addr → Result → Shared → Prop} {xv : Value} {s₁ : Shared}
    (hcell : ∀ y ∈ scope.names, y.2 ≠ .cell) (hkind : scope.kind = .function) (hx : scope.names.lookup x = some .local) (src : SrcD knd A h₀ L m env elt x scope cl Fin xv s₁) (fin : AtDone h₀ L m s₁ Fin RR) :
    wpAny (model prog w) A (pyIter xv) (fun it s₂ => wpAny (model prog w) A (newList []) (fun acc s₃ => wpAny (model prog w) A (newFunctionEnv scope env.globals cl [] env.qual none .none (some env)) (fun cenv s₄ =>
      codeAny (model prog w) A (.compStart (.ListComp elt [⟨.Name x px, iter, [], 0⟩] scope pos) 0 it acc { cenv with scope := relabel scope env }) (RR acc cenv.locals) s₄) E s₃) E s₂) E s₁ := by
  obtain ⟨d, od, kvs, news, rfl, hh, F, N, hm, hd, lo, hsz, go⟩ := src
  obtain ⟨it, fp, St, enter, W, has, stay, start, low⟩ := dict_go knd hh (N _ hm).1 hd lo
  have up : s₁.heap.StaysIn (s₁.heap.push it) := fun b o e => Heap.get?_push_of_some _ e
  refine enter _ _ (block_U W hsz has (fun i h h' o nw st e e' _ N' S' => stay i h h' o st e e' (N' _ S').1) hcell hkind hx start low (F.keeps up) (N.grown up) (Nat.ne_of_lt F.ns.lt) (next_is_new F) (fun p hp => Nat.ne_of_lt (Heap.lt_size (N p hp).1)) hm (go _ ⟨_, rfl⟩) ?_)
  intro D C h tk mc ys nw a1 a2 a3 a4 a5 a6 a7 a8 a9 a10 a11
  exact fin _ D C h tk mc ys nw ⟨_, rfl⟩ a1 a2 a3 a4 a5 a6 a7 a8 a9 a10 a11
theorem turns_DT (knd : KeyKind prog w K) {ct elt iter : Expr} {x : Str} {px : Pos} {scope : Scope} {cl : List (Str × Addr)} {pos : Pos} {Fin : Shared → List Value → List (Addr × Obj) → Prop} {RR : Value → Addr → Result → Shared → Prop} {xv : Value} {s₁ : Shared}
    (hcell : ∀ y ∈ scope.names, y.2 ≠ .cell) (hkind : scope.kind = .function) (hx : scope.names.lookup x = some .local) (src : SrcDT knd A h₀ L m env ct elt x scope cl Fin xv s₁) (fin : AtDone h₀ L m s₁ Fin RR) :
    wpAny (model prog w) A (pyIter xv) (fun it s₂ => wpAny (model prog w) A (newList []) (fun acc s₃ => wpAny (model prog w) A (newFunctionEnv scope env.globals cl [] env.qual none .none (some env)) (fun cenv s₄ =>
      codeAny (model prog w) A (.compStart (.ListComp elt [⟨.Name x px, iter, [ct], 0⟩] scope pos) 0 it acc { cenv with scope := relabel scope env }) (RR acc cenv.locals) s₄) E s₃) E s₂) E s₁ := by
  obtain ⟨d, od, kvs, news, rfl, hh, F, N, hm, hd, lo, hsz, go⟩ := src
  obtain ⟨it, fp, St, enter, W, has, stay, start, low⟩ := dict_go knd hh (N _ hm).1 hd lo
  have up : s₁.heap.StaysIn (s₁.heap.push it) := fun b o e => Heap.get?_push_of_some _ e
  refine enter _ _ (block_T W hsz has (fun i h h' o nw st e e' _ N' S' => stay i h h' o st e e' (N' _ S').1) hcell hkind hx start low (F.keeps up) (N.grown up) (Nat.ne_of_lt F.ns.lt) (next_is_new F) (fun p hp => Nat.ne_of_lt (Heap.lt_size (N p hp).1)) hm (go _ ⟨_, rfl⟩) ?_)
  intro D C h tk mc ys nw a1 a2 a3 a4 a5 a6 a7 a8 a9 a10 a11
  exact fin _ D C h tk mc ys nw ⟨_, rfl⟩ a1 a2 a3 a4 a5 a6 a7 a8 a9 a10 a11
theorem ListComp_D (knd : KeyKind prog w K) (_F₀ : Fr h₀ L s.heap m) {elt iter : Expr} {x : Str} {px : Pos} {scope : Scope} {cl : List (Str × Addr)} {pos : Pos} {Q : Value → Shared → Prop}
    (hclos : closureFor scope env = pure cl) (hcell : ∀ y ∈ scope.names, y.2 ≠ .cell) (hkind : scope.kind = .function) (hnames : ∀ y ∈ scope.names, y.2 = .local → scope.names.lookup y.1 = some .local) (hx : scope.names.lookup x = some .local)
    (h : wpAny (model prog w) A (eval iter env) (SrcD knd A h₀ L m env elt x scope cl (fun s₂ => FinE h₀ L m s₂ Q)) E s) (hs : ∀ x, foldedSetIterable iter env x = pure x := by intro _; rfl) :
    wpAny (model prog w) A (eval (.ListComp elt [⟨.Name x px, iter, [], 0⟩] scope pos) env) Q E s := by
  rw [eval_ListComp]
  exact wpAny_comprehension_free (use := none) rfl hs hclos hkind hnames (wpAny_mono h (fun _ _ src => turns_D knd hcell hkind hx src done_value) fun _ _ e => e)
theorem ListComp_DT (knd : KeyKind prog w K) (_F₀ : Fr h₀ L s.heap m) {ct elt iter : Expr} {x : Str} {px : Pos} {scope : Scope} {cl : List (Str × Addr)} {pos : Pos} {Q : Value → Shared → Prop}
    (hclos : closureFor scope env = pure cl) (hcell : ∀ y ∈ scope.names, y.2 ≠ .cell) (hkind : scope.kind = .function) (hnames : ∀ y ∈ scope.names, y.2 = .local → scope.names.lookup y.1 = some .local) (hx : scope.names.lookup x = some .local)
    (h : wpAny (model prog w) A (eval iter env) (SrcDT knd A h₀ L m env ct elt x scope cl (fun s₂ => FinE h₀ L m s₂ Q)) E s) (hs : ∀ x, foldedSetIterable iter env x = pure x := by intro _; rfl) :
    wpAny (model prog w) A (eval (.ListComp elt [⟨.Name x px, iter, [ct], 0⟩] scope pos) env) Q E s := by
  rw [eval_ListComp]
  exact wpAny_comprehension_free (use := none) rfl hs hclos hkind hnames (wpAny_mono h (fun _ _ src => turns_DT knd hcell hkind hx src done_value) fun _ _ e => e)
theorem Assign_ListComp_DT (knd : KeyKind prog w K) (_F₀ : Fr h₀ L s.heap m) {ct elt iter : Expr} {x y : Str} {px py : Pos} {scope : Scope} {cl : List (Str × Addr)} {pos spos : Pos} {Q : Flow → Shared → Prop} (hLe : env.locals = L)
    (hsw : swapsWith (.ListComp elt [⟨.Name x px, iter, [ct], 0⟩] scope pos) (some (.Name y py)) spos.line env = pure true)
    (hclos : closureFor scope env = pure cl) (hcell : ∀ z ∈ scope.names, z.2 ≠ .cell) (hkind : scope.kind = .function)
    (hnames : ∀ z ∈ scope.names, z.2 = .local → scope.names.lookup z.1 = some .local) (hx : scope.names.lookup x = some .local)
    (hy : env.kindOf y = some .local) (hp : (env.scope.kind == .class || (env.scope.kind == .module && env.locals != env.globals)) = false)
    (h : wpAny (model prog w) A (eval iter env) (SrcDT knd A h₀ L m env ct elt x scope cl (fun s₂ => FinA h₀ L m s₂ y Q)) E s)
    (hs : ∀ x, foldedSetIterable iter env x = pure x := by intro _; rfl) :
    wpAny (model prog w) A (exec (.Assign [.Name y py] (.ListComp elt [⟨.Name x px, iter, [ct], 0⟩] scope pos) spos) env) Q E s := by
  rw [exec_Assign_Name_used _ _ _ _ hsw]
  refine wpAny_bind (wpAny_standAt (wpAny_bind (wpAny_bind ?_)))
  exact wpAny_mono (wpAny_comprehension_free (Q := fun _ s' => Q .next s') rfl hs hclos hkind hnames (wpAny_mono h (fun _ _ src => turns_DT knd hcell hkind hx src (done_name hLe hy hp)) fun _ _ e => e))
    (fun _ _ q => wpAny_pure (wpAny_pure q)) fun _ _ e => e
end
theorem comp_allNT {prog : Program} {w : World} {A : Around} {s : Shared} {h₀ : Heap} {L : Addr} {m : Str → Option Value} {env : Env} {elt ct : Expr} {x : Str} {scope : Scope} {cl : List (Str × Addr)} {S : List (Addr × Obj) → Prop} {P : Nat → Value → Prop} {Fin : List Value → List (Addr × Obj) → Prop} {n : Nat} {news : List (Addr × Obj)} (Inv : Nat → List Value → List (Addr × Obj) → Prop)
    (turn : ∀ i v ys news I oI C oC D m₂ h tk (E' : Value → Shared → Prop), i < n → P i v → Inv i ys news → NsObj oC m₂ → m₂ x = some v → Fr h₀ L h m → News h₀ L h ((I, oI) :: (C, oC) :: (D, lst ys) :: news) → Off3 I C D news → ((@Ne Nat I C) ∧ (@Ne Nat I D) ∧ (@Ne Nat C D)) →
      wpAny (model prog w) A (isTrue ct (compEnvC scope cl C env) (eval ct (compEnvC scope cl C env))) (fun ok s' => if ok = true then
        wpAny (model prog w) A (eval elt (compEnvC scope cl C env)) (CompEnd h₀ L m { s with heap := h, toks := tk } I oI C oC D (lst ys) S (fun y news' => Inv (i + 1) (ys ++ [y]) news')) E' s'
        else CompEnd h₀ L m { s with heap := h, toks := tk } I oI C oC D (lst ys) S (fun _ news' => Inv (i + 1) ys news') Value.none s') E' { s with heap := h, toks := tk })
    (start : Inv 0 [] news) (fin : ∀ ys news', Inv n ys news' → Fin ys news') : CompRestT prog w A h₀ L m env ct elt x scope cl s S P Fin n 0 [] news := by
  have key : ∀ (k i : Nat) (ys : List Value) (news : List (Addr × Obj)), i + k = n → Inv i ys news → CompRestT prog w A h₀ L m env ct elt x scope cl s S P Fin k i ys news := by
    intro k
    induction k with
    | zero => intro i ys news e hi; exact CompRestT.zero (fin ys news (by rw [← e]; exact hi))
    | succ k ih =>
      intro i ys news e hi
      refine CompRestT.succ fun v I oI C oC D m₂ h tk E' hv hC hx F N off ne => ?_
      refine wpAny_mono (turn i v ys news I oI C oC D m₂ h tk E' (by omega) hv hi hC hx F N off ne) (fun ok s₁ q => ?_) fun _ _ z => z
      cases ok with
      | true =>
        simp only [if_true] at q ⊢
        refine wpAny_mono q (fun y s₁ q => ?_) fun _ _ z => z
        obtain ⟨h', tk', news', e1, F', N', o', S', hi'⟩ := q
        exact ⟨h', tk', news', e1, F', N', o', S', ih (i + 1) _ _ (by omega) hi'⟩
      | false =>
        simp only [Bool.false_eq_true, if_false] at q ⊢
        obtain ⟨h', tk', news', e1, F', N', o', S', hi'⟩ := q
        exact ⟨h', tk', news', e1, F', N', o', S', ih (i + 1) _ _ (by omega) hi'⟩
  exact key n 0 [] news (by omega) start

theorem str_ext {a b : Str} (h : a.cps.toList = b.cps.toList) : a = b := by
  cases a; cases b
  simp only at h
  congr 1
  exact Array.toList_inj.mp h
noncomputable def leS (a b : Str) : Prop := a.cps.toList ≤ b.cps.toList
theorem leS_of {a b : Str} (h : ltCps b.cps.toList a.cps.toList = false) : leS a b := by
  rw [ltCps_eq] at h
  exact List.not_lt.mp (of_decide_eq_false h)
theorem rising_pw : ∀ (p : Str) (l : List Str), risingS p l = true → (p :: l).Pairwise leS
  | p, [], _ => List.pairwise_singleton _ _
  | p, x :: r, h => by
    have h' : (!ltCps x.cps.toList p.cps.toList && risingS x r) = true := h
    rw [Bool.and_eq_true, Bool.not_eq_true'] at h'
    have hp := rising_pw x r h'.2
    refine List.pairwise_cons.mpr ⟨fun y hy => ?_, hp⟩
    rcases List.mem_cons.mp hy with rfl | hy
    · exact leS_of h'.1
    · exact List.le_trans (leS_of h'.1) ((List.pairwise_cons.mp hp).1 y hy)
theorem sorted_pw {l : List Str} (h : sortedS l = true) : l.Pairwise leS := by
  cases l with
  | nil => exact List.Pairwise.nil
  | cons x r => exact rising_pw x r h
theorem leS_anti {a b : Str} (h : leS a b) (h' : leS b a) : a = b := str_ext (List.le_antisymm h h')
theorem strs_uniq {a b : List Str} (p : a.Perm b) (ha : a.Pairwise leS) (hb : b.Pairwise leS) : a = b :=
  List.Perm.eq_of_pairwise (fun _ _ _ _ => leS_anti) ha hb p

set_option maxRecDepth 100000
set_option maxHeartbeats 8000000

theorem strs_of {w : World} : ∀ {kvs : List (Str × Value)} {vs : List Value}, vs.length = kvs.length → (∀ (j : Nat) (v : Value), vs[j]? = some v → ∃ k x, kvs[j]? = some (k, x) ∧ (SK w).is k v = true) → StrsAre vs (kvs.map (·.1))
  | [], [], _, _ => .nil
  | [], _ :: _, h, _ => by simp at h
  | _ :: _, [], h, _ => by simp at h
  | p :: kvs, v :: vs, h, hj => by
    obtain ⟨k, x, h1, h2⟩ := hj 0 v rfl
    obtain ⟨t, rfl⟩ := str_key h2
    have e : p.1 = k := by simp at h1; rw [h1]
    rw [List.map_cons, e]
    exact .cons k t (strs_of (by simpa using h) fun j v hv => by simpa using hj (j + 1) v (by simpa using hv))
theorem list_keys {w : World} {A : Around} {E Q : Value → Shared → Prop} {s : Shared} {h₀ : Heap} {L d : Addr} {m : Str → Option Value} {news : List (Addr × Obj)} {od : Obj} {kvs : List (Str × Value)} (hh : A.handled = none) (F : Fr h₀ L s.heap m) (N : News h₀ L s.heap news) (hmem : (d, od) ∈ news) (hdo : od.IsDictOf (SK w) kvs) (lo : (d == sysModules) = false) (hn : kvs.length ≤ 60)
    (h : ∀ D c h' tk vs, Fr h₀ L h' m → News h₀ L h' ((D, listOf vs.toArray c) :: news) → (∀ q ∈ news, q.1 < D) → StrsAre vs (kvs.map (·.1)) → Q (.ref D) { s with heap := h', toks := tk }) :
    wpAny (model PySem.Challenge.rw_nn0123_01.row.prog w) A (call (.type "list") [.ref d]) Q E s := by
  obtain ⟨ep, ha⟩ := KdkAt.of hdo
  refine kdl_N (kdl_dict (knd := SK w) (d := d) (kvs := kvs) (ep := ep) lo) hh F N (ha.dictAt (N _ hmem).1) (by rw [sizeLine_eq]; omega) fun D c h' tk vs F' N' hl hlen hj => ?_
  exact h D c h' tk vs F' N' hl (strs_of hlen hj)
section
local macro_rules | `(tactic| walk_at "call type:list") => `(tactic| refine Hold.out ?_)
local macro_rules | `(tactic| walk_at "call builtin:sorted") => `(tactic| refine Hold.out ?_)
local macro_rules | `(tactic| walk_at "nothing at all") => `(tactic| fail)
theorem g0_ok {w : World} {mean : ExcName → Option Value} {mg mb : Str → Option Value} {h₀ : Heap} {L fa : Addr} {cd : Value} {m : Str → Option Value} {s : Shared} {E : Value → Shared → Prop} {P : Shared → Prop} {g : Heap} {R : List (Addr × Obj)} {c5 c4 c3 c2 c1 : Obj} {t hd' : Addr} {sv : Value} {T' : List (Int × D)} {H : List (Str × D)}
    (B : Below callerA h₀ [] h₀) (F : Fr h₀ L s.heap m) (X : (hd.heap_1 w.params).In h₀) (T : Top view (looseW view looseN) mean mg mb h₀)
    (N : News h₀ L s.heap ((L + 5, c5) :: (L + 4, c4) :: (L + 3, c3) :: (L + 2, c2) :: (L + 1, c1) :: R)) (hgR : ∀ b o, g.get? b = some o → (b, o) ∈ R)
    (d4 : c4.data = .cell (some (.ref hd'))) (d2 : c2.data = .cell (some sv)) (d1 : c1.data = .cell (some (.ref t)))
    (hT : IsTabL w g t T') (hsv : IsShelf w g sv T') (hh : IsHead w g hd' H) (hFL : fetchK T' 30 = lawF T' 9)
    (hlen : H.length ≤ 8)
    (ret : ∀ h' tk' m' rw vs n ss, Fr h₀ L h' m' → News h₀ L h' ((L + 5, c5) :: (L + 4, c4) :: (L + 3, c3) :: (L + 2, c2) :: (L + 1, c1) :: ((rw, listOf vs.toArray n) :: R)) → m' (Str.ofString "rows") = some (.ref rw) → m' (Str.ofString "pen") = m (Str.ofString "pen") → StrsAre vs ss → ss.Perm (H.map (·.1)) → sortedS ss = true → P { s with heap := h', toks := tk' }) :
    wpAny (model PySem.Challenge.rw_nn0123_01.row.prog w) (callerA.deeper (envOfC (Str.ofString "law") (lawS w) L fa cd)) (execs (((turnB w).drop 3).take 1) (envOfC (Str.ofString "law") (lawS w) L fa cd)) (AtEnd P) E s := by
  revert X; k_fill; intro X
  have e1 : turnB w = [_, _, _, _, _, _, _, _, _, _, _, _, _, _, _, _] := rfl
  have e2 : lawS w = ⟨_, _, _, _, _⟩ := rfl
  rw [e1, e2]
  dsimp only [List.drop, List.take]
  clear e1 e2
  (try k_fold)
  have hh' := hh
  obtain ⟨lo, kvs, hD, hKV⟩ := hh'
  obtain ⟨od, hod, hdo⟩ := Heap.dictOf_iff.mp hD
  have hmem := hgR _ _ hod
  have hkl := hKV.len
  k_steps
  unfold Hold
  rename Fr h₀ _ _ _ => Fz
  rename News h₀ _ _ _ => Nz
  refine list_keys (by rfl) Fz Nz (by repeat (first | exact hmem | exact List.mem_append_left _ hmem | exact List.mem_append_right _ hmem | refine List.mem_cons_of_mem _ ?_)) hdo lo (by omega) ?_
  intro D c h1 tk1 vs F1 N1 hl1 hS
  k_steps
  unfold Hold
  rename Fr h₀ _ _ _ => Fz
  rename News h₀ _ _ _ => Nz
  have hvl := hS.length
  rw [List.length_map] at hvl
  refine sorted_N_str Fz Nz (isList_of Nz List.mem_cons_self) hS (by omega) ?_
  intro h2 vs2 ss2 e2 F2 N2 hS2 hp2 hs2
  k_steps
  unfold AtEnd
  dsimp only [Hold]
  refine ret _ _ _ _ vs2 e2 ss2 (by assumption) (news_sub (by assumption) ?_) (by rfl) (by rfl) hS2 (by rw [← hKV.keys]; exact hp2) hs2
  intro x hx
  simp only [List.mem_cons] at hx ⊢
  rcases hx with h | h | h | h | h | h | h <;> simp [h]
end

set_option maxRecDepth 100000
set_option maxHeartbeats 8000000

theorem strKeys_of {es : Array DictEntry} (h : (es.toList.all fun e => match e.key with | .str _ _ => true | _ => false) = true) : StrKeys es := fun e he => by
  have := List.all_eq_true.mp h e (by simpa using he)
  revert this
  cases e.key <;> intro q <;> first | exact ⟨_, _, rfl⟩ | cases q
theorem cmp_155 {w : World} {h : Heap} {x dx : Addr} (X : (hd.heap_1 w.params).In h) (hx : h.get? x = some (instObj 155 dx)) : h.CmpInst x 155 [.type "object"] := by
  have e := X 155 _ rfl
  refine ⟨_, _, _, _, _, _, _, _, _, _, _, _, _, _, _, _, _, _, hx, rfl, e, ⟨_, _, _, X _ _ rfl, rfl, ?_, fun _ => rfl⟩, ?_, ?_⟩
  · exact strKeys_of rfl
  · rfl
  · rfl
theorem cmp_261 {w : World} {h : Heap} {x dx : Addr} (X : (hd.heap_1 w.params).In h) (hx : h.get? x = some (instObj 261 dx)) : h.CmpInst x 261 [.type "object"] := by
  have e := X 261 _ rfl
  refine ⟨_, _, _, _, _, _, _, _, _, _, _, _, _, _, _, _, _, _, hx, rfl, e, ⟨_, _, _, X _ _ rfl, rfl, ?_, fun _ => rfl⟩, ?_, ?_⟩
  · exact strKeys_of rfl
  · rfl
  · rfl
theorem cmp_190 {w : World} {h : Heap} {x dx : Addr} (X : (hd.heap_1 w.params).In h) (hx : h.get? x = some (instObj 190 dx)) : h.CmpInst x 190 [.type "object"] := by
  have e := X 190 _ rfl
  refine ⟨_, _, _, _, _, _, _, _, _, _, _, _, _, _, _, _, _, _, hx, rfl, e, ⟨_, _, _, X _ _ rfl, rfl, ?_, fun _ => rfl⟩, ?_, ?_⟩
  · exact strKeys_of rfl
  · rfl
  · rfl
theorem ne_inst {w : World} {A : Around} {E Q : Value → Shared → Prop} {s : Shared} {x C : Addr} (h : s.heap.CmpInst x C [.type "object"]) (hu : A.units + 1 < cLine) (q : Q (.bool false) s) : wpAny (model PySem.Challenge.rw_nn0123_01.row.prog w) A (compareOp .NotEq (.ref x) (.ref x)) Q E s := by
  obtain ⟨hh, g, d, t, os⟩ := s
  exact compareOp_ne_same PySem.F.cmp_object h hu q
theorem ne_same {w : World} {A : Around} {E Q : Value → Shared → Prop} {s : Shared} {v : Value} {p : P} (X : (hd.heap_1 w.params).In s.heap) (hu : A.units + 64 < cLine) (hv : IsP s.heap v p) (h : Q (.bool false) s) : wpAny (model PySem.Challenge.rw_nn0123_01.row.prog w) A (compareOp .NotEq v v) Q E s := by
  revert X; k_fill; intro X
  cases p with
  | none => cases hv; exact SeqAt.RcNeAt.none_none _ w E Q h
  | bool b =>
    cases hv
    have q := SeqAt.RcNeAt.bool_bool (A := A) (s := s) b b
    rw [show (b == b) = true from by simp] at q
    exact q _ w E Q h
  | int i =>
    obtain ⟨t, rfl⟩ := hv
    have q := SeqAt.RcNeAt.int_int (A := A) (s := s) i t i t
    rw [show (i == i) = true from by simp] at q
    exact q _ w E Q h
  | str i =>
    obtain ⟨t, rfl⟩ := hv
    have q := SeqAt.RcNeAt.str_str (A := A) (s := s) i t i t
    rw [show (i == i) = true from by simp] at q
    exact q _ w E Q h
  | dec => obtain ⟨a, dx, od, rfl, h1, h2⟩ := hv; exact ne_inst (cmp_155 X h1) (by omega) h
  | ref n => obtain ⟨a, dx, es, k', t, t', rfl, h1, h2, h3, h4⟩ := hv; exact ne_inst (cmp_261 X h1) (by omega) h
  | name n => obtain ⟨a, dx, es, k', t, rfl, h1, h2, h3⟩ := hv; exact ne_inst (cmp_190 X h1) (by omega) h

set_option maxRecDepth 100000
set_option maxHeartbeats 8000000
open PySem.SeqAt PySem.Builtin
open PySem.AutoSeq1 (wpAny_loadPart')
section
theorem str_eq_declines_inst (b : Str) (u : Tok) (l C dx : Addr) :
    Meets (Builtin.«str.__eq__» ⟨[.str b u, .ref l], []⟩) (fun _ R s => s.heap.get? l = some (instObj C dx) ∧ R (.ok (.ret .notImplemented)) s) :=
  .of_wp fun prog w A R s h => by obtain ⟨hp, g, d, tk, os⟩ := s; obtain ⟨hl, h⟩ := h; wp_walk using wpAny_loadPart' hl, wpAny_load hl; exact ⟨_, rfl, h⟩
theorem str_eq_declines_dict (b : Str) (u : Tok) (l : Addr) (n : Nat) :
    Meets (Builtin.«str.__eq__» ⟨[.str b u, .ref l], []⟩) (fun _ R s => s.heap.get? l = some (dictOf [] n) ∧ R (.ok (.ret .notImplemented)) s) :=
  .of_wp fun prog w A R s h => by obtain ⟨hp, g, d, tk, os⟩ := s; obtain ⟨hl, h⟩ := h; wp_walk using wpAny_loadPart' hl, wpAny_load hl; exact ⟨_, rfl, h⟩
theorem dict_eq_declines_str (b : Str) (u : Tok) (l : Addr) (n : Nat) :
    Meets (Builtin.«dict.__eq__» ⟨[.ref l, .str b u], []⟩) (fun _ R s => s.heap.get? l = some (dictOf [] n) ∧ R (.ok (.ret .notImplemented)) s) :=
  .of_wp fun prog w A R s h => by obtain ⟨hp, g, d, tk, os⟩ := s; obtain ⟨hl, h⟩ := h; have f1 := PySem.F.sub_str_dict; wp_walk using wpAny_loadPart' hl, wpAny_load hl; exact ⟨_, rfl, h⟩
end
section
variable {A : Around} {s : Shared}
theorem RcAt.str_emp {l : Addr} {n : Nat} (b : Str) (u : Tok) (ho : s.heap.get? l = some (dictOf [] n)) (hu : A.units < cLine) : RcAt A s (.str b u) (.ref l) false := fun prog w E Q h => by
  exact rc_eq_decline_or (k := false) (typeIs_str s b u) ⟨_, ho, rfl⟩ (by decide) PySem.F.sub_dict_str PySem.F.slot_str_eq PySem.F.slot_dict_eq_refl
    (fun _ hq => call_meets PySem.F.slot_str_eq (typeIs_str s b u) PySem.F.entry_str_eq (PySem.F.args_str_eq_2 _ _) (str_eq_declines_dict b u l n) ⟨ho, hq⟩)
    (fun _ hq => call_meets PySem.F.slot_dict_eq_refl ⟨_, ho, rfl⟩ PySem.F.entry_dict_eq (PySem.F.args_dict_eq_2 _ _) (dict_eq_declines_str b u l n) ⟨ho, hq⟩)
    (fun _ hq => wpAny_of_eq (rfl : isSame (.str b u) (.ref l) = pure false) hq) (.inr hu) h
theorem EqAt.str_emp {l : Addr} {n : Nat} (b : Str) (u : Tok) (ho : s.heap.get? l = some (dictOf [] n)) (hu : A.units < cLine) : EqAt A s (.str b u) (.ref l) false := fun prog w E Q h => by
  unfold eqBool
  refine wpAny_holding ?_
  refine wpAny_ite_split (fun hab => absurd (eq_of_beq hab) nofun) (fun _ => ?_)
  exact wpAny_bind (RcAt.str_emp b u ho hu prog w E _ (wpAny_truthy_bool h))
end
section
variable {prog : Program} {w : World} {A : Around} {E : Value → Shared → Prop} {h : Heap} {g : Array GenState} {d : Drawn} {t : Nat} {os : OsState}
variable {C x dx : Addr} {b : Str} {u : Tok}
theorem objEq_entry_str {M : Model} {s : Shared} {ox : Obj} {Q : Fin → Shared → Prop} (hx : s.heap.get? x = some ox)
    (hq : Q (.done (.ret .notImplemented)) s) : wpAny M A (Builtin.«object.__eq__» ⟨[.ref x, .str b u], []⟩) Q E s := by
  unfold Builtin.«object.__eq__»
  repeat (first | with_reducible refine wpAny_of_eq (rfl : isSame (.ref x) (.str b u) = pure false) ?_ | wp_step)
  exact hq
theorem call_objEq_str (X : h.CmpInst x C [.type "object"]) {Q : Value → Shared → Prop} (hq : Q .notImplemented ⟨h, g, d, t, os⟩) :
    wpAny (model prog w) A (call (.builtin "object.__eq__") [.ref x, .str b u]) Q E ⟨h, g, d, t, os⟩ := by
  obtain ⟨o, nm, q, N, bs, hdct, sn, sub, ab, col, dd, k0, k1, k2, k3, k5, newId, mN, hx, hc, hC, _⟩ := id X
  exact wpAny_call (codeAny_call_builtin PySem.F.cmp_object.eq.plain PySem.F.cmpEntry_eq (wpAny_check_slot_inst PySem.F.cmpKind_eq PySem.F.cmpSplit_eq (PySem.F.cmpArgs_eq _ _) PySem.F.cmp_object.hasObject hx hc hC
    (objEq_entry_str hx hq)))
theorem tryCompare_inst_str (X : h.CmpInst x C [.type "object"]) {Q : Option Value → Shared → Prop} (hq : Q none ⟨h, g, d, t, os⟩) :
    wpAny (model prog w) A (tryCompare (.ref x) "__eq__" (.str b u)) Q E ⟨h, g, d, t, os⟩ := by
  obtain ⟨o, nm, q, N, bs, hdct, sn, sub, ab, col, dd, k0, k1, k2, k3, k5, newId, mN, hx, hc, hC, hn, he, _⟩ := id X
  simp only [tryCompare]
  exact wpAny_bind (wpAny_callSpecialIfBound?_inst hx hc hC hn he PySem.F.cmp_object.mro PySem.F.cmp_object.eq (call_objEq_str X (wpAny_pure hq)))
theorem tryCompare_str_inst (hx : h.get? x = some (instObj C dx)) {Q : Option Value → Shared → Prop} (hq : Q none ⟨h, g, d, t, os⟩) :
    wpAny (model prog w) A (tryCompare (.str b u) "__eq__" (.ref x)) Q E ⟨h, g, d, t, os⟩ :=
  wpAny_tryCompare_declines (typeIs_str _ b u) PySem.F.slot_str_eq (call_meets PySem.F.slot_str_eq (typeIs_str _ b u) PySem.F.entry_str_eq (PySem.F.args_str_eq_2 _ _) (str_eq_declines_inst b u x C dx) ⟨hx, rfl, hq⟩)
theorem rc_str_inst (X : h.CmpInst x C [.type "object"]) (hx : h.get? x = some (instObj C dx)) (hu : A.units < cLine) {Q : Value → Shared → Prop} (hq : Q (.bool false) ⟨h, g, d, t, os⟩) :
    wpAny (model prog w) A (richCompare .Eq (.str b u) (.ref x)) Q E ⟨h, g, d, t, os⟩ := by
  obtain ⟨o, nm, q, N, bs, hdct, sn, sub, ab, col, dd, k0, k1, k2, k3, k5, newId, mN, hx', hc, hC, _⟩ := id X
  have hs : ((Value.ref C :: [Value.type "object"]).contains (Value.type "str")) = false := by simp
  simp only [richCompare, cmpInfo_Eq, (typeIs_str ⟨h, g, d, t, os⟩ b u).oneThing_none]
  repeat (first | with_reducible refine wpAny_cRoomFor hu ?_ | with_reducible refine wpAny_typeOf (typeIs_str _ b u) ?_ | (with_reducible refine wpAny_loadPart_at hx' ?_; rw [hc]) | (with_reducible refine wpAny_isSubtype_exc hC ?_; rw [hs]) | with_reducible refine tryCompare_str_inst hx ?_ | with_reducible refine tryCompare_inst_str X ?_ | with_reducible refine wpAny_of_eq (rfl : isSame (.str b u) (.ref x) = pure false) ?_ | wp_step)
  exact hq
end
theorem EqAt.str_inst {A : Around} {s : Shared} {x C dx : Addr} (b : Str) (u : Tok) (X : s.heap.CmpInst x C [.type "object"]) (hx : s.heap.get? x = some (instObj C dx)) (hu : A.units < cLine) : EqAt A s (.str b u) (.ref x) false := fun prog w E Q h => by
  obtain ⟨hh, g, d, t, os⟩ := s
  unfold eqBool
  refine wpAny_holding ?_
  refine wpAny_ite_split (fun hab => absurd (eq_of_beq hab) nofun) (fun _ => ?_)
  exact wpAny_bind (rc_str_inst X hx hu (wpAny_truthy_bool h))
noncomputable def D.isX (x : Str) : D → Bool | .p (.str y) => x == y | _ => false
theorem EqAt.str_D {A : Around} {w : World} {s : Shared} {v : Value} {d : D} (b : Str) (u : Tok) (X : (hd.heap_1 w.params).In s.heap) (hv : IsD s.heap v d) (hu : A.units < cLine) : EqAt A s (.str b u) v (d.isX b) := by
  cases d with
  | p p =>
    cases p with
    | none => cases hv; exact .str_none _ _
    | bool b => cases hv; exact .str_bool _ _ _
    | int i => obtain ⟨t, rfl⟩ := hv; exact .str_int _ _ _ _
    | str i => obtain ⟨t, rfl⟩ := hv; exact .str_str _ _ _ _
    | dec => obtain ⟨a, dx, od, rfl, h1, h2⟩ := hv; exact EqAt.str_inst b u (cmp_155 X h1) h1 hu
    | ref n => obtain ⟨a, dx, es, k', t, t', rfl, h1, h2, h3, h4⟩ := hv; exact EqAt.str_inst b u (cmp_261 X h1) h1 hu
    | name n => obtain ⟨a, dx, es, k', t, rfl, h1, h2, h3⟩ := hv; exact EqAt.str_inst b u (cmp_190 X h1) h1 hu
  | list ps => obtain ⟨a, vs, n, rfl, h1, h2⟩ := hv; exact .str_list b u ⟨_, h1, rfl, _, rfl⟩ hu
  | emp => obtain ⟨a, n, rfl, h1⟩ := hv; exact EqAt.str_emp b u h1 hu

set_option maxRecDepth 100000
set_option maxHeartbeats 8000000

theorem trailer_law {w : World} {mean : ExcName → Option Value} {mg mb : Str → Option Value} {dp un : Nat} {gd : Option (List Code)} {cn : Str} {cs : Scope} {a : Addr} {ccd : Value} {cl : List (Str × Addr)} {outer : List Env} {A₀ : Around} {base h₀ : Heap} {L : Addr} {m : Str → Option Value} {s : Shared} {Q E : Value → Shared → Prop}
    (B : Below A₀ base outer h₀) (F : Fr h₀ L s.heap m) (X : (hd.heap_1 w.params).In h₀) (T : Top view (looseW view looseN) mean mg mb h₀) (hk : cs.kind = .function)
    {t : Addr} {od : Obj} {kvs : List (Str × Value)} {news : List (Addr × Obj)} (N : News h₀ L s.heap news) (hmem : (t, od) ∈ news) (lo : (t == sysModules) = false) (hdo : od.IsDictOf (SK w) kvs) (hlen : kvs.length ≤ 60)
    (hd : dp + 260 < recursionLimit) (hu : un + 260 < cLine)
    (ret : ∀ (r : Addr) h' tk' o', Fr h₀ L h' m → News h₀ L h' ((r, o') :: news) → (∀ p ∈ news, p.1 ≠ r) → (r == sysModules) = false → o'.IsDictOf (SK w) (kvs.filter fun p => !own p.1) → Q (.ref r) { s with heap := h', toks := tk' }) :
    wpAny (model PySem.Challenge.rw_nn0123_01.row.prog w) (ktrTop dp un gd cn cs L a ccd cl outer) (call (.ref 408) [.ref t]) Q E s := by
  refine trailer_ok (g := s.heap) B F X T hk News.nil (fun _ _ e => e) lo (Heap.dictOf_iff.mpr ⟨od, (N _ hmem).1, hdo⟩) (by omega) (by omega) (by omega) ?_
  intro r h' tk' F' b hr lor hD
  obtain ⟨o', ho', hdo'⟩ := Heap.dictOf_iff.mp hD
  have N' := newsStay N b
  refine ret r h' tk' o' F' (fun p hp => ?_) (fun p hp => fun e => ?_) lor hdo'
  · rcases List.mem_cons.mp hp with rfl | hp
    · exact news1 F ho' hr _ List.mem_cons_self
    · exact N' p hp
  · have := (N p hp).1
    rw [e, hr] at this
    cases this
theorem strsAre_snoc {x : Str} {t : Tok} : ∀ {vs : List Value} {ss : List Str}, StrsAre vs ss → StrsAre (vs ++ [.str x t]) (ss ++ [x])
  | _, _, .nil => .cons _ _ .nil
  | _, _, .cons a b h => .cons a b (strsAre_snoc h)
theorem strs_two : ∀ {vs us : List Value} {ss : List Str}, StrsAre vs ss → StrsAre us ss → ∀ (j : Nat) (h1 : j < vs.length) (h2 : j < us.length), ∃ x t u, vs[j] = .str x t ∧ us[j] = .str x u
  | _, _, _, .nil, _, j, h1, _ => absurd h1 (Nat.not_lt_zero j)
  | _, _, _, .cons a b h, .cons _ c h', 0, _, _ => ⟨a, b, c, rfl, rfl⟩
  | _, _, _, .cons a b h, .cons _ c h', j + 1, h1, h2 => by simpa using strs_two h h' j (by simpa using h1) (by simpa using h2)
theorem ne_strs {prog : Program} {w : World} {A : Around} {E Q : Value → Shared → Prop} {s : Shared} {l b : Addr} {vs us : List Value} {ss : List Str} (hl : s.heap.IsList l vs.toArray) (hb : s.heap.IsList b us.toArray) (h1 : StrsAre vs ss) (h2 : StrsAre us ss) (hu : A.units < cLine) (q : Q (.bool false) s) :
    wpAny (model prog w) A (compareOp .NotEq (.ref l) (.ref b)) Q E s := by
  refine SeqAt.RcNeAt.lists (e := fun _ => true) hl hb (by simp [h1.length, h2.length]) hu (fun j a1 a2 => ?_) prog w E Q ?_
  · obtain ⟨x, t, u, e1, e2⟩ := strs_two h1 h2 j (by simpa using a1) (by simpa using a2)
    have := SeqAt.EqAt.str_str (A := A.in1) (s := s) x t x u
    rw [show (x == x) = true from by simp] at this
    simpa [e1, e2] using this
  · have e : ((List.range vs.toArray.size).all fun _ => true) = true := by simp
    rw [e]
    exact q
theorem strs_get : ∀ {vs : List Value} {ss : List Str} {i : Nat} {v : Value}, StrsAre vs ss → vs[i]? = some v → ∃ x t, v = .str x t ∧ x ∈ ss
  | _, _, i, v, .nil, e => by simp at e
  | _, _, 0, v, .cons a b h, e => ⟨a, b, by simpa using e.symm, List.mem_cons_self⟩
  | _, _, i + 1, v, .cons a b h, e => by
    obtain ⟨x, t, h1, h2⟩ := strs_get (i := i) h (by simpa using e)
    exact ⟨x, t, h1, List.mem_cons_of_mem _ h2⟩
theorem valueAt_mem {kvs : List (Str × Value)} {k : Str} {y : Value} (hn : (kvs.map (·.1)).Nodup) (h : (k, y) ∈ kvs) : valueAt kvs k = some y := by
  obtain ⟨i, hi⟩ := List.getElem?_of_mem h
  exact valueAt_of_get hn hi
theorem KV.mem {R : Value → D → Prop} {l : List (Str × Value)} {r : List (Str × D)} {k : Str} {y : Value} (q : KV R l r) (h : (k, y) ∈ l) : ∃ d, (k, d) ∈ r ∧ R y d := by
  induction l generalizing r with
  | nil => cases h
  | cons a l ih =>
    cases r with
    | nil => exact q.elim
    | cons b r =>
      rcases List.mem_cons.mp h with e | h
      · cases e
        exact ⟨b.2, by rw [show b = (k, b.2) from Prod.ext q.1.symm rfl]; exact List.mem_cons_self, q.2.1⟩
      · obtain ⟨d, h1, h2⟩ := ih q.2.2 h
        exact ⟨d, List.mem_cons_of_mem _ h1, h2⟩
theorem comp_skip {prog : Program} {w : World} {A : Around} {s : Shared} {h₀ : Heap} {L : Addr} {m : Str → Option Value} {env : Env} {elt ct : Expr} {x : Str} {scope : Scope} {cl : List (Str × Addr)} {S : List (Addr × Obj) → Prop} {P : Nat → Value → Prop} {Fin : List Value → List (Addr × Obj) → Prop} {n : Nat} {news : List (Addr × Obj)}
    (turn : ∀ i v I oI C oC D m₂ h tk (E' : Value → Shared → Prop), i < n → P i v → NsObj oC m₂ → m₂ x = some v → Fr h₀ L h m → News h₀ L h ((I, oI) :: (C, oC) :: (D, lst []) :: news) → Off3 I C D news → ((@Ne Nat I C) ∧ (@Ne Nat I D) ∧ (@Ne Nat C D)) →
      wpAny (model prog w) A (isTrue ct (compEnvC scope cl C env) (eval ct (compEnvC scope cl C env))) (fun ok s' => if ok = true then False
        else CompEnd h₀ L m { s with heap := h, toks := tk } I oI C oC D (lst []) S (fun _ news' => Hold (news' = news)) Value.none s') E' { s with heap := h, toks := tk })
    (fin : Fin [] news) : CompRestT prog w A h₀ L m env ct elt x scope cl s S P Fin n 0 [] news := by
  refine comp_allNT (news := news) (fun i zs nw => nw = news ∧ zs = []) ?_ ⟨rfl, rfl⟩ ?_
  · intro i v zs nw I oI C oC D m₂ h tk E' hi hv hinv hC hx F2 N2 off ne
    obtain ⟨h1, h2⟩ := hinv
    rw [h1] at N2 off
    rw [h2] at N2 ⊢
    refine wpAny_mono (turn i v I oI C oC D m₂ h tk E' hi hv hC hx F2 N2 off ne) (fun ok s₁ q => ?_) fun _ _ z => z
    cases ok with
    | true => exact absurd q (by simp)
    | false =>
      simp only [Bool.false_eq_true, if_false] at q ⊢
      obtain ⟨h', tk', news', e1, F', N', o', S', hi'⟩ := q
      exact ⟨h', tk', news', e1, F', N', o', S', (by first | exact ⟨hi', h2⟩ | exact ⟨hi', rfl⟩ | exact ⟨hi', trivial⟩)⟩
  · rintro zs nw ⟨h1, h2⟩
    rw [h1, h2]; exact fin
section
local macro_rules | `(tactic| walk_at "call type:list") => `(tactic| refine Hold.out ?_)
local macro_rules | `(tactic| walk_at "call builtin:sorted") => `(tactic| refine Hold.out ?_)
local macro_rules | `(tactic| walk_at "exec Assign cons ListComp") => `(tactic| refine Hold.out ?_)
local macro_rules | `(tactic| walk_at "compareOp NotIn str ref") => `(tactic| refine Hold.out ?_)
local macro_rules | `(tactic| walk_at "subscriptTail") => `(tactic| refine Hold.out ?_)
local macro_rules | `(tactic| walk_at "compareOp NotEq") => `(tactic| refine Hold.out ?_)
local macro_rules | `(tactic| walk_at "compareOp NotEq ref ref") => `(tactic| refine Hold.out ?_)
local macro_rules | `(tactic| k_all) => `(tactic| with_reducible assumption)
local macro_rules | `(tactic| walk_at "CompSrcT") => `(tactic| refine Hold.out ?_)
local macro_rules | `(tactic| walk_at "call ref") => `(tactic| ((with_reducible show wpAny _ _ (call (Value.ref 408) [_]) _ _ _); refine Hold.out ?_))
theorem g4_ok {w : World} {mean : ExcName → Option Value} {mg mb : Str → Option Value} {h₀ : Heap} {L fa : Addr} {cd : Value} {m : Str → Option Value} {s : Shared} {E : Value → Shared → Prop} {P : Shared → Prop} {g : Heap} {R : List (Addr × Obj)} {c5 c4 c3 c2 c1 : Obj} {t hd' : Addr} {sv : Value} {T' : List (Int × D)} {H : List (Str × D)}
    (B : Below callerA h₀ [] h₀) (F : Fr h₀ L s.heap m) (X : (hd.heap_1 w.params).In h₀) (T : Top view (looseW view looseN) mean mg mb h₀)
    (N : News h₀ L s.heap ((L + 5, c5) :: (L + 4, c4) :: (L + 3, c3) :: (L + 2, c2) :: (L + 1, c1) :: R)) (hgR : ∀ b o, g.get? b = some o → (b, o) ∈ R)
    (d4 : c4.data = .cell (some (.ref hd'))) (d2 : c2.data = .cell (some sv)) (d1 : c1.data = .cell (some (.ref t)))
    (hT : IsTabL w g t T') (hsv : IsShelf w g sv T') (hh : IsHead w g hd' H) (hFL : fetchK T' 30 = lawF T' 9)
    {v5 : Option Value} {rw' : Addr} {rvs : List Value} {rn : Nat} {rss : List Str} (hlen : H.length ≤ 8) (d5 : c5.data = .cell v5) (hrow : m (Str.ofString "rows") = some (.ref rw')) (hrm : (rw', listOf rvs.toArray rn) ∈ R) (hrs : StrsAre rvs rss) (hrp : rss.Perm (H.map (·.1))) (hrt : sortedS rss = true) (hR5 : ∀ x ∈ R, x.1 ≠ L + 5) (hown : ∀ x ∈ H, own x.1 = false → ∃ p, x.2 = .p p)
    (ret : ∀ h' tk' m' c5' v5', Fr h₀ L h' m' → News h₀ L h' ((L + 5, c5') :: (L + 4, c4) :: (L + 3, c3) :: (L + 2, c2) :: (L + 1, c1) :: R) → c5'.data = .cell v5' → m' (Str.ofString "pen") = m (Str.ofString "pen") → P { s with heap := h', toks := tk' }) :
    wpAny (model PySem.Challenge.rw_nn0123_01.row.prog w) (callerA.deeper (envOfC (Str.ofString "law") (lawS w) L fa cd)) (execs (((turnB w).drop 13).take 3) (envOfC (Str.ofString "law") (lawS w) L fa cd)) (AtEnd P) E s := by
  revert X; k_fill; intro X
  have e1 : turnB w = [_, _, _, _, _, _, _, _, _, _, _, _, _, _, _, _] := rfl
  have e2 : lawS w = ⟨_, _, _, _, _⟩ := rfl
  rw [e1, e2]
  dsimp only [List.drop, List.take]
  clear e1 e2
  (try k_fold)
  have hh' := hh
  obtain ⟨lo, kvs, hD, hKV⟩ := hh'
  obtain ⟨od, hod, hdo⟩ := Heap.dictOf_iff.mp hD
  have hmem := hgR _ _ hod
  have hkl := hKV.len
  obtain ⟨m0, rfl⟩ : ∃ m0 : Str → Option Value, m = fun y => if y = Str.ofString "rows" then some (.ref rw') else m0 y := ⟨m, by
    funext y
    by_cases hy : y = Str.ofString "rows"
    · rw [if_pos hy, hy, hrow]
    · rw [if_neg hy]⟩
  clear hrow
  k_steps
  unfold Hold
  refine Assign_ListComp_DT (SK w) (by assumption) (by rfl) (by with_unfolding_all rfl) (by with_unfolding_all rfl) (by decide) (by rfl) (by decide) (by rfl) (by rfl) (by rfl) ?_
  k_steps
  rename Fr h₀ _ _ _ => Fz
  rename News h₀ _ _ _ => Nz
  refine ⟨hd', od, kvs, _, rfl, by rfl, Fz, Nz, (by repeat (first | exact hmem | exact List.mem_append_left _ hmem | exact List.mem_append_right _ hmem | refine List.mem_cons_of_mem _ ?_)), hdo, lo, by rw [sizeLine_eq]; omega, fun s₂ ⟨g', e⟩ => e ▸ ?_⟩
  refine comp_allNT (fun i ys nw => Hold (nw = (L + 5, c5) :: (L + 4, c4) :: (L + 3, c3) :: (L + 2, c2) :: (L + 1, c1) :: R ∧ StrsAre ys (((kvs.take i).filter fun p => !own p.1).map (·.1)))) ?_ ⟨rfl, .nil⟩ ?_
  · intro i v ys nw I oI C oC D m₂ h tk E' hi hv hinv hC hx F2 N2 off ne
    obtain ⟨k, y, hky, hkv⟩ := hv
    obtain ⟨tv, rfl⟩ := str_key hkv
    obtain ⟨rfl, hys⟩ := hinv
    have off0 := off
    simp only [Off3] at off
    k_steps
    unfold Hold
    refine notin_tuple_strs (ys := ownL) ⟨_, news_here (by assumption) (by k_mem), rfl, _, rfl⟩ (.cons _ _ (.cons _ _ (.cons _ _ (.cons _ _ (.cons _ _ (.cons _ _ .nil)))))) ?_
    cases ho : own k with
    | true =>
      rw [show (ownL.any (· == k)) = true from ho]
      k_steps
      rename Fr h₀ _ _ _ => F3
      rename News h₀ _ _ _ => N3
      refine LCg.CompEnd.intro F3 N3 ((L + 5, c5) :: (L + 4, c4) :: (L + 3, c3) :: (L + 2, c2) :: (L + 1, c1) :: R) (fun p hp => List.mem_cons_of_mem _ hp) off0 (by repeat (first | exact hmem | exact List.mem_append_left _ hmem | exact List.mem_append_right _ hmem | refine List.mem_cons_of_mem _ ?_)) ⟨rfl, ?_⟩
      rw [take_snoc hky, List.filter_append]
      simpa [ho] using hys
    | false =>
      rw [show (ownL.any (· == k)) = false from ho]
      k_steps
      rename Fr h₀ _ _ _ => F3
      rename News h₀ _ _ _ => N3
      refine LCg.CompEnd.intro F3 N3 ((L + 5, c5) :: (L + 4, c4) :: (L + 3, c3) :: (L + 2, c2) :: (L + 1, c1) :: R) (fun p hp => List.mem_cons_of_mem _ hp) off0 (by repeat (first | exact hmem | exact List.mem_append_left _ hmem | exact List.mem_append_right _ hmem | refine List.mem_cons_of_mem _ ?_)) ⟨rfl, ?_⟩
      rw [take_snoc hky, List.filter_append, List.map_append]
      simpa [ho] using strsAre_snoc hys
  · intro ys nw hinv
    obtain ⟨rfl, hys⟩ := hinv
    rw [List.take_length] at hys
    k_steps
    unfold Hold
    rename Fr h₀ _ _ _ => F3
    rename News h₀ _ _ _ => N3
    refine' trailer_law B F3 X T ?hk N3 ?hm lo hdo ?hl ?hd ?hu ?_
    case hk => rfl
    case hm => exact (by repeat (first | exact hmem | exact List.mem_append_left _ hmem | exact List.mem_append_right _ hmem | refine List.mem_cons_of_mem _ ?_))
    case hl => omega
    case hd => ktr_room
    case hu => ktr_units
    intro r h5 tk5 o5 F5 N5 hne5 lo5 hdo5
    have hr5 := neN (hne5 _ (List.mem_cons_of_mem _ List.mem_cons_self))
    have hrR : ∀ x ∈ R, x.1 ≠ r := fun x hx => hne5 x (by repeat (first | exact hx | refine List.mem_cons_of_mem _ ?_))
    k_steps
    unfold Hold
    rename Fr h₀ _ _ _ => F6
    rename News h₀ _ _ _ => N6
    have hfl : (kvs.filter fun p => !own p.1).length ≤ 60 := Nat.le_trans (List.length_filter_le _ _) (by omega)
    refine list_keys (by rfl) F6 N6 (by k_mem) hdo5 lo5 hfl ?_
    intro D6 n6 h6 tk6 vs6 F7 N7 hl7 hS7
    k_steps
    unfold Hold
    rename Fr h₀ _ _ _ => F8
    rename News h₀ _ _ _ => N8
    refine ne_strs (isList_of N8 (by k_mem)) (isList_of N8 (by k_mem)) hS7 hys (by ktr_units) ?_
    k_steps
    unfold Hold
    rename Fr h₀ _ _ _ => F8
    rename News h₀ _ _ _ => N8
    have hn : (kvs.map (·.1)).Nodup := (by obtain ⟨_, _, _, _, _, _, hn⟩ := hdo; exact hn)
    have hn' : ((kvs.filter fun p => !own p.1).map (·.1)).Nodup := (by obtain ⟨_, _, _, _, _, _, hn⟩ := hdo5; exact hn)
    have hysl := hys.length
    rw [List.length_map] at hysl
    refine CompSrcT.ledger (by rfl) F8 N8 (by k_mem) (by rw [List.size_toArray, sizeLine_eq]; omega) fun g' => ?_
    refine comp_skip ?_ ?_
    · intro i v I oI C oC D m₂ h tk E' hi hv hC hx F2 N2 off ne
      obtain ⟨k, tv, rfl, hk⟩ := strs_get hys (by simpa using hv)
      obtain ⟨⟨k', y⟩, hky, hkk⟩ := List.mem_map.mp hk
      dsimp only at hkk
      subst hkk
      obtain ⟨hky1, ho⟩ := List.mem_filter.mp hky
      have hv1 := valueAt_mem hn hky1
      have hv2 := valueAt_mem hn' hky
      obtain ⟨d, hd1, hd2⟩ := hKV.mem hky1
      obtain ⟨p, hp⟩ := hown (k', d) hd1 (by simpa using ho)
      dsimp only at hp
      subst hp
      have off0 := off
      simp only [Off3] at off
      k_steps
      unfold Hold
      rename Fr h₀ _ _ _ => Fz
      rename News h₀ _ _ _ => Nz
      refine dsub (knd := SK w) (g := Shared.heap _) (fun b o e => e) (Heap.dictOf_iff.mpr ⟨o5, (Nz (r, o5) (by k_mem)).1, hdo5⟩) (strKind_is _ _ _ _) hv2 ?_
      k_steps
      unfold Hold
      rename Fr h₀ _ _ _ => Fz
      rename News h₀ _ _ _ => Nz
      refine dsub (knd := SK w) (g := Shared.heap _) (fun b o e => e) (Heap.dictOf_iff.mpr ⟨od, (Nz (hd', od) (by repeat (first | exact hmem | exact List.mem_append_left _ hmem | exact List.mem_append_right _ hmem | refine List.mem_cons_of_mem _ ?_))).1, hdo⟩) (strKind_is _ _ _ _) hv1 ?_
      k_steps
      unfold Hold
      rename Fr h₀ _ _ _ => Fz
      rename News h₀ _ _ _ => Nz
      refine ne_same (fun a o e => Fz.keep a o (X a o e)) (by ktr_units) (IsD.keeps hd2 (sub_news Nz hgR (by intro x hx; repeat (first | exact hx | exact List.mem_append_left _ hx | exact List.mem_append_right _ hx | refine List.mem_cons_of_mem _ ?_)))) ?_
      k_steps
      rename Fr h₀ _ _ _ => Fz
      rename News h₀ _ _ _ => Nz
      exact LCg.CompEnd.intro Fz Nz _ (fun p hp => hp) off0 (.inr ⟨_, (by k_mem), rfl, _, rfl⟩) rfl
    · k_steps
      unfold Hold
      rename Fr h₀ _ _ _ => Fz
      rename News h₀ _ _ _ => Nz
      refine ne_strs (isList_of (vs := []) Nz (by k_mem)) (isList_of (vs := []) Nz (by k_mem)) .nil .nil (by ktr_units) ?_
      k_steps
      unfold Hold
      rename Fr h₀ _ _ _ => Fz
      rename News h₀ _ _ _ => Nz
      refine list_keys (by rfl) Fz Nz (by repeat (first | exact hmem | exact List.mem_append_left _ hmem | exact List.mem_append_right _ hmem | refine List.mem_cons_of_mem _ ?_)) hdo lo (by omega) ?_
      intro D c h1 tk1 vs F1 N1 hl1 hS
      k_steps
      unfold Hold
      rename Fr h₀ _ _ _ => Fz
      rename News h₀ _ _ _ => Nz
      have hvl := hS.length
      rw [List.length_map] at hvl
      refine sorted_N_str Fz Nz (isList_of Nz List.mem_cons_self) hS (by omega) ?_
      intro h2 vs2 ss2 e2 F2 N2 hS2 hp2 hs2
      k_steps
      unfold Hold
      rename Fr h₀ _ _ _ => Fz
      rename News h₀ _ _ _ => Nz
      have hss : ss2 = rss := strs_uniq (hp2.trans (by rw [hKV.keys]; exact hrp.symm)) (sorted_pw hs2) (sorted_pw hrt)
      subst hss
      refine ne_strs (isList_of (vs := vs2) Nz (by k_mem)) (isList_of (vs := rvs) (n := rn) Nz (by repeat (first | exact hrm | exact List.mem_append_left _ hrm | exact List.mem_append_right _ hrm | refine List.mem_cons_of_mem _ ?_))) hS2 hrs (by ktr_units) ?_
      k_steps
      unfold AtEnd
      dsimp only [Hold]
      refine ret _ _ _ _ _ (by assumption) (news_sub (by assumption) ?_) (by assumption) (by rfl)
      intro x hx
      simp only [List.mem_cons] at hx ⊢
      rcases hx with h | h | h | h | h | h <;> simp [h]
end

set_option maxRecDepth 100000
set_option maxHeartbeats 8000000

noncomputable def forB (w : World) : List Stmt := match (turnB w) with
  | _ :: f :: _ => forBody f
  | _ => []
theorem stored_last {K : Type} [DecidableEq K] {kvs : List (K × Value)} {k : K} {v v' : Value} (h : k ∉ kvs.map (·.1)) : stored (kvs ++ [(k, v)]) k v' = kvs ++ [(k, v')] := by
  unfold stored
  have ha : ((kvs ++ [(k, v)]).any fun kv => kv.1 = k) = true := by simp
  have hm : kvs.map (fun kv => if kv.1 = k then (kv.1, v') else kv) = kvs := by
    refine (List.map_congr_left fun x hx => ?_).trans (List.map_id kvs)
    rw [if_neg]
    · rfl
    · rintro rfl
      exact h (List.mem_map_of_mem hx)
  rw [ha, if_pos rfl, List.map_append, hm]
  simp
noncomputable def Apart (R news : List (Addr × Obj)) : Prop := ∀ x ∈ R, ∀ y ∈ news, x.1 ≠ y.1
theorem apart_of {h₀ h h' : Heap} {L : Addr} {news news' R : List (Addr × Obj)} (N : News h₀ L h news') (hf : ∀ x ∈ R, h'.get? x.1 = some x.2 ∧ h.get? x.1 = none) (hs : ∀ y ∈ news, ∃ o, (y.1, o) ∈ news') : Apart R news := fun x hx y hy e => by
  obtain ⟨o, ho⟩ := hs y hy
  have h1 := (N _ ho).1
  have h2 := (hf x hx).2
  rw [e] at h2
  rw [h2] at h1; cases h1
theorem apart_lt {a0 : Addr} {R news : List (Addr × Obj)} (h : AllLt a0 news) (hle : ∀ y ∈ R, @LE.le Nat _ a0 y.1) : Apart R news := fun x hx y hy e => by
  have h1 := allLt_mem h y hy
  have h2 := hle x hx
  rw [e] at h2
  exact Nat.lt_irrefl _ (Nat.lt_of_lt_of_le h1 h2)
theorem apart_nil {news : List (Addr × Obj)} : Apart [] news := fun _ h => nomatch h
theorem wi_own {k : Str} (h : ([Str.ofString "W", Str.ofString "Index"].any (· == k)) = true) : own k = true := by
  simp only [List.any_cons, List.any_nil, Bool.or_false, Bool.or_eq_true, beq_iff_eq] at h
  rcases h with rfl | rfl <;> rfl
theorem ty_own {k : Str} (h : (k == Str.ofString "Type") = true) : own k = true := by
  rw [beq_iff_eq] at h
  subst h; rfl
section
local macro_rules | `(tactic| k_enter) => `(tactic| kcf_m)
local macro_rules | `(tactic| k_all) => `(tactic| with_reducible assumption)
local macro_rules | `(tactic| walk_at "setItem ref str") => `(tactic| refine Hold.out ?_)
local macro_rules | `(tactic| walk_at "compareOp In str ref") => `(tactic| refine Hold.out ?_)
local macro_rules | `(tactic| walk_at "call ref") => `(tactic| refine holdAt 446 ?_)
local macro_rules | `(tactic| walk_at "nothing at all") => `(tactic| fail)
theorem hb_a {w : World} {mean : ExcName → Option Value} {mg mb : Str → Option Value} {h₀ : Heap} {L fa : Addr} {cd : Value} {m : Str → Option Value} {s : Shared} {E : Value → Shared → Prop} {P : Shared → Prop} {R : List (Addr × Obj)} {c5 c4 c3 c2 c1 : Obj} {d p q : Addr} {op oq od : Obj} {k : Str} {kt : Tok} {kvs : List (Str × Value)}
    (B : Below callerA h₀ [] h₀) (F : Fr h₀ L s.heap m) (X : (hd.heap_1 w.params).In h₀) (T : Top view (looseW view looseN) mean mg mb h₀)
    (N : News h₀ L s.heap ((L + 5, c5) :: (L + 4, c4) :: (L + 3, c3) :: (L + 2, c2) :: (L + 1, c1) :: (d, od) :: (p, op) :: (q, oq) :: R)) (d3 : c3.data = .cell (some (.ref d)))
    (hmp : m (Str.ofString "pen") = some (.ref p)) (hmk : m (Str.ofString "key") = some (.str k kt)) (hpen : IsPen q op oq) (hpq : @Ne Nat p q) (hdp : @Ne Nat d p) (hdq : @Ne Nat d q) (np1 : @Ne Nat (L + 1) p) (np2 : @Ne Nat (L + 2) p) (np3 : @Ne Nat (L + 3) p) (np4 : @Ne Nat (L + 4) p) (np5 : @Ne Nat (L + 5) p) (nq1 : @Ne Nat (L + 1) q) (nq2 : @Ne Nat (L + 2) q) (nq3 : @Ne Nat (L + 3) q) (nq4 : @Ne Nat (L + 4) q) (nq5 : @Ne Nat (L + 5) q) (nd1 : @Ne Nat (L + 1) d) (nd2 : @Ne Nat (L + 2) d) (nd3 : @Ne Nat (L + 3) d) (nd4 : @Ne Nat (L + 4) d) (nd5 : @Ne Nat (L + 5) d)
    (hRp : ∀ x ∈ R, x.1 ≠ p) (hRq : ∀ x ∈ R, x.1 ≠ q) (hRd : ∀ x ∈ R, x.1 ≠ d) (hle : kvs.length ≤ 60)
    (hdo : od.IsDictOf (SK w) kvs) (hkn : k ∉ kvs.map (·.1))
    (ret : ∀ h' tk' op' oq' od' R' v pp, Fr h₀ L h' m → News h₀ L h' ((L + 5, c5) :: (L + 4, c4) :: (L + 3, c3) :: (L + 2, c2) :: (L + 1, c1) :: (d, od') :: (p, op') :: (q, oq') :: (R ++ R')) → IsPen q op' oq' → od'.IsDictOf (SK w) (kvs ++ [(k, v)]) → Has R' v (.p pp) → Apart R' ((L + 5, c5) :: (L + 4, c4) :: (L + 3, c3) :: (L + 2, c2) :: (L + 1, c1) :: (d, od) :: (p, op) :: (q, oq) :: R) → P { s with heap := h', toks := tk' }) :
    wpAny (model PySem.Challenge.rw_nn0123_01.row.prog w) (callerA.deeper (envOfC (Str.ofString "law") (lawS w) L fa cd)) (execs (((forB w).drop 0).take 1) (envOfC (Str.ofString "law") (lawS w) L fa cd)) (AtEnd P) E s := by
  revert X; k_fill; intro X
  have e1 : forB w = [_, _, _] := rfl
  have e2 : lawS w = ⟨_, _, _, _, _⟩ := rfl
  rw [e1, e2]
  dsimp only [List.drop, List.take]
  clear e1 e2
  obtain ⟨m0, rfl⟩ : ∃ m0 : Str → Option Value, m = fun y => if y = Str.ofString "key" then some (.str k kt) else if y = Str.ofString "pen" then some (.ref p) else m0 y := ⟨m, by
    funext y
    by_cases hy : y = Str.ofString "key"
    · rw [if_pos hy, hy, hmk]
    · rw [if_neg hy]
      by_cases hy : y = Str.ofString "pen"
      · rw [if_pos hy, hy, hmp]
      · rw [if_neg hy]⟩
  clear hmp hmk
  (try k_fold)
  (k_steps; repeat' ((refine Hold.mk ?_; first | ((with_reducible show wpAny _ _ (call (Value.ref 446) [_, _]) _ _ _); (refine' array_ok ?B ?F ?X ?T ?hk ?N ?U1 ?U2 ?hp ?hpq ?hm0 ?hm1 ?hd ?hu ?_; (case B => k_asm); (case F => k_asm); (case X => k_asm); (case T => k_asm); (case hk => first | exact rfl | assumption); (case N => k_asm); (case U1 => k_updF); (case hp => assumption); (case hpq => assumption); (case U2 => (intro zo8; (try dsimp only); k_updF)); (case hm0 => omega); (case hm1 => omega); (case hd => ktr_room); (case hu => ktr_units)); intro zv9 zR9 zdd9 zh9 ztk9 zop9 zoq9 zF9 zN9 zhp9 zhb9 zhf9 zhr9; (try dsimp only at zN9); refine Hold.out ?_) | ((with_reducible show wpAny _ _ (call (Value.ref 441) [_]) _ _ _); (refine' part_ok ?B ?F ?X ?T ?hk ?N ?U1 ?U2 ?hp ?hpq  ?hd ?hu ?_; (case B => k_asm); (case F => k_asm); (case X => k_asm); (case T => k_asm); (case hk => first | exact rfl | assumption); (case N => k_asm); (case U1 => k_updF); (case hp => assumption); (case hpq => assumption); (case U2 => (intro zo8; (try dsimp only); k_updF)); (case hd => ktr_room); (case hu => ktr_units)); intro zv9 zR9 zpp9 zh9 ztk9 zop9 zoq9 zF9 zN9 zhp9 zhb9 zhf9 zhr9; (try dsimp only at zN9); refine Hold.out ?_) | ((with_reducible show wpAny _ _ (call (Value.ref 434) [_, _]) _ _ _); (refine' pick_ok ?B ?F ?X ?T ?hk ?N ?U1 ?U2 ?hp ?hpq ?hl ?hlp ?hne ?hle ?hd ?hu ?_; (case B => k_asm); (case F => k_asm); (case X => k_asm); (case T => k_asm); (case hk => first | exact rfl | assumption); (case N => k_asm); (case U1 => k_updF); (case hp => assumption); (case hpq => assumption); (case U2 => (intro zo8; (try dsimp only); k_updF)); (case hl => exact (news_here (by assumption) (by k_mem))); (case hlp => exact off2 (by k_ne) (by k_ne)); (case hne => exact Nat.le_of_ble_eq_true rfl); (case hle => exact Nat.le_of_ble_eq_true rfl); (case hd => ktr_room); (case hu => ktr_units)); intro zv9 zh9 ztk9 zop9 zoq9 zF9 zN9 zhp9 zhb9 zhm9; (try dsimp only at zN9); refine Hold.out ?_) | ((with_reducible show wpAny _ _ (call (Value.ref 427) [_, _]) _ _ _); (refine' draw_pen ?B ?F ?X ?T ?hk ?N ?U1 ?U2 ?hp ?hpq ?hm ?hd ?hu ?_; (case B => k_asm); (case F => k_asm); (case X => k_asm); (case T => k_asm); (case hk => first | exact rfl | assumption); (case N => k_asm); (case U1 => k_updF); (case hp => assumption); (case hpq => assumption); (case U2 => (intro zo8; (try dsimp only); k_updF)); (case hm => first | decide | omega); (case hd => ktr_room); (case hu => ktr_units)); intro zr9 zt9 zh9 ztk9 zop9 zoq9 zF9 zN9 zhp9 zhb9 zh09 zh19; (try dsimp only at zN9))); k_steps))
  unfold Hold
  rename Fr h₀ _ _ _ => F9
  rename News h₀ _ _ _ => N9
  rename ∀ x ∈ _, _ ∧ _ => hf9
  rename Has _ _ _ => hr9
  rename IsPen q _ _ => hp9
  rename List (Addr × Obj) => R9
  have ap9 : Apart R9 ((L + 5, c5) :: (L + 4, c4) :: (L + 3, c3) :: (L + 2, c2) :: (L + 1, c1) :: (d, od) :: (p, op) :: (q, oq) :: R) := apart_of N hf9 (by intro y hy; simp only [List.mem_cons] at hy; rcases hy with rfl | rfl | rfl | rfl | rfl | rfl | rfl | rfl | hy <;> first | exact ⟨_, by k_mem⟩ | exact ⟨y.2, by repeat (first | exact hy | exact List.mem_append_left _ hy | refine List.mem_cons_of_mem _ ?_)⟩)
  have N10 := news_add N9 F hf9
  simp only [List.cons_append] at N10
  clear N9
  have hRp : ∀ x ∈ R ++ R9, x.1 ≠ p := List.forall_mem_append.mpr ⟨hRp, fun x hx => ap9 x hx (p, op) (by k_mem)⟩
  have hRq : ∀ x ∈ R ++ R9, x.1 ≠ q := List.forall_mem_append.mpr ⟨hRq, fun x hx => ap9 x hx (q, oq) (by k_mem)⟩
  have hRd : ∀ x ∈ R ++ R9, x.1 ≠ d := List.forall_mem_append.mpr ⟨hRd, fun x hx => ap9 x hx (d, od) (by k_mem)⟩
  (k_steps; repeat' ((refine Hold.mk ?_; first | ((with_reducible show wpAny _ _ (call (Value.ref 446) [_, _]) _ _ _); (refine' array_ok ?B ?F ?X ?T ?hk ?N ?U1 ?U2 ?hp ?hpq ?hm0 ?hm1 ?hd ?hu ?_; (case B => k_asm); (case F => k_asm); (case X => k_asm); (case T => k_asm); (case hk => first | exact rfl | assumption); (case N => k_asm); (case U1 => k_updF); (case hp => assumption); (case hpq => assumption); (case U2 => (intro zo8; (try dsimp only); k_updF)); (case hm0 => omega); (case hm1 => omega); (case hd => ktr_room); (case hu => ktr_units)); intro zv9 zR9 zdd9 zh9 ztk9 zop9 zoq9 zF9 zN9 zhp9 zhb9 zhf9 zhr9; (try dsimp only at zN9); refine Hold.out ?_) | ((with_reducible show wpAny _ _ (call (Value.ref 441) [_]) _ _ _); (refine' part_ok ?B ?F ?X ?T ?hk ?N ?U1 ?U2 ?hp ?hpq  ?hd ?hu ?_; (case B => k_asm); (case F => k_asm); (case X => k_asm); (case T => k_asm); (case hk => first | exact rfl | assumption); (case N => k_asm); (case U1 => k_updF); (case hp => assumption); (case hpq => assumption); (case U2 => (intro zo8; (try dsimp only); k_updF)); (case hd => ktr_room); (case hu => ktr_units)); intro zv9 zR9 zpp9 zh9 ztk9 zop9 zoq9 zF9 zN9 zhp9 zhb9 zhf9 zhr9; (try dsimp only at zN9); refine Hold.out ?_) | ((with_reducible show wpAny _ _ (call (Value.ref 434) [_, _]) _ _ _); (refine' pick_ok ?B ?F ?X ?T ?hk ?N ?U1 ?U2 ?hp ?hpq ?hl ?hlp ?hne ?hle ?hd ?hu ?_; (case B => k_asm); (case F => k_asm); (case X => k_asm); (case T => k_asm); (case hk => first | exact rfl | assumption); (case N => k_asm); (case U1 => k_updF); (case hp => assumption); (case hpq => assumption); (case U2 => (intro zo8; (try dsimp only); k_updF)); (case hl => exact (news_here (by assumption) (by k_mem))); (case hlp => exact off2 (by k_ne) (by k_ne)); (case hne => exact Nat.le_of_ble_eq_true rfl); (case hle => exact Nat.le_of_ble_eq_true rfl); (case hd => ktr_room); (case hu => ktr_units)); intro zv9 zh9 ztk9 zop9 zoq9 zF9 zN9 zhp9 zhb9 zhm9; (try dsimp only at zN9); refine Hold.out ?_) | ((with_reducible show wpAny _ _ (call (Value.ref 427) [_, _]) _ _ _); (refine' draw_pen ?B ?F ?X ?T ?hk ?N ?U1 ?U2 ?hp ?hpq ?hm ?hd ?hu ?_; (case B => k_asm); (case F => k_asm); (case X => k_asm); (case T => k_asm); (case hk => first | exact rfl | assumption); (case N => k_asm); (case U1 => k_updF); (case hp => assumption); (case hpq => assumption); (case U2 => (intro zo8; (try dsimp only); k_updF)); (case hm => first | decide | omega); (case hd => ktr_room); (case hu => ktr_units)); intro zr9 zt9 zh9 ztk9 zop9 zoq9 zF9 zN9 zhp9 zhb9 zh09 zh19; (try dsimp only at zN9))); k_steps))
  unfold Hold
  rename Fr h₀ _ _ _ => F9
  rename News h₀ _ _ _ => N9
  refine kda_set (knd := SK w) F9 N9 (by k_updF) hdo (strKind_is _ _ _ _) (by rw [sizeLine_eq]; (try simp only [List.length_append, List.length_cons, List.length_nil]); omega) ?_
  intro h6 o6 F6 N6 hd6
  (try dsimp only at N6)
  (k_steps; repeat' ((refine Hold.mk ?_; first | ((with_reducible show wpAny _ _ (call (Value.ref 446) [_, _]) _ _ _); (refine' array_ok ?B ?F ?X ?T ?hk ?N ?U1 ?U2 ?hp ?hpq ?hm0 ?hm1 ?hd ?hu ?_; (case B => k_asm); (case F => k_asm); (case X => k_asm); (case T => k_asm); (case hk => first | exact rfl | assumption); (case N => k_asm); (case U1 => k_updF); (case hp => assumption); (case hpq => assumption); (case U2 => (intro zo8; (try dsimp only); k_updF)); (case hm0 => omega); (case hm1 => omega); (case hd => ktr_room); (case hu => ktr_units)); intro zv9 zR9 zdd9 zh9 ztk9 zop9 zoq9 zF9 zN9 zhp9 zhb9 zhf9 zhr9; (try dsimp only at zN9); refine Hold.out ?_) | ((with_reducible show wpAny _ _ (call (Value.ref 441) [_]) _ _ _); (refine' part_ok ?B ?F ?X ?T ?hk ?N ?U1 ?U2 ?hp ?hpq  ?hd ?hu ?_; (case B => k_asm); (case F => k_asm); (case X => k_asm); (case T => k_asm); (case hk => first | exact rfl | assumption); (case N => k_asm); (case U1 => k_updF); (case hp => assumption); (case hpq => assumption); (case U2 => (intro zo8; (try dsimp only); k_updF)); (case hd => ktr_room); (case hu => ktr_units)); intro zv9 zR9 zpp9 zh9 ztk9 zop9 zoq9 zF9 zN9 zhp9 zhb9 zhf9 zhr9; (try dsimp only at zN9); refine Hold.out ?_) | ((with_reducible show wpAny _ _ (call (Value.ref 434) [_, _]) _ _ _); (refine' pick_ok ?B ?F ?X ?T ?hk ?N ?U1 ?U2 ?hp ?hpq ?hl ?hlp ?hne ?hle ?hd ?hu ?_; (case B => k_asm); (case F => k_asm); (case X => k_asm); (case T => k_asm); (case hk => first | exact rfl | assumption); (case N => k_asm); (case U1 => k_updF); (case hp => assumption); (case hpq => assumption); (case U2 => (intro zo8; (try dsimp only); k_updF)); (case hl => exact (news_here (by assumption) (by k_mem))); (case hlp => exact off2 (by k_ne) (by k_ne)); (case hne => exact Nat.le_of_ble_eq_true rfl); (case hle => exact Nat.le_of_ble_eq_true rfl); (case hd => ktr_room); (case hu => ktr_units)); intro zv9 zh9 ztk9 zop9 zoq9 zF9 zN9 zhp9 zhb9 zhm9; (try dsimp only at zN9); refine Hold.out ?_) | ((with_reducible show wpAny _ _ (call (Value.ref 427) [_, _]) _ _ _); (refine' draw_pen ?B ?F ?X ?T ?hk ?N ?U1 ?U2 ?hp ?hpq ?hm ?hd ?hu ?_; (case B => k_asm); (case F => k_asm); (case X => k_asm); (case T => k_asm); (case hk => first | exact rfl | assumption); (case N => k_asm); (case U1 => k_updF); (case hp => assumption); (case hpq => assumption); (case U2 => (intro zo8; (try dsimp only); k_updF)); (case hm => first | decide | omega); (case hd => ktr_room); (case hu => ktr_units)); intro zr9 zt9 zh9 ztk9 zop9 zoq9 zF9 zN9 zhp9 zhb9 zh09 zh19; (try dsimp only at zN9))); k_steps))
  unfold AtEnd
  dsimp only [Hold]
  rw [stored_absent (valueAt_none_of_not_mem hkn)] at hd6
  exact ret _ _ _ _ _ _ _ _ (by assumption) (by assumption) hp9 hd6 hr9 ap9
theorem hb_b {w : World} {mean : ExcName → Option Value} {mg mb : Str → Option Value} {h₀ : Heap} {L fa : Addr} {cd : Value} {m : Str → Option Value} {s : Shared} {E : Value → Shared → Prop} {P : Shared → Prop} {R : List (Addr × Obj)} {c5 c4 c3 c2 c1 : Obj} {d p q : Addr} {op oq od : Obj} {k : Str} {kt : Tok} {kvs : List (Str × Value)}
    (B : Below callerA h₀ [] h₀) (F : Fr h₀ L s.heap m) (X : (hd.heap_1 w.params).In h₀) (T : Top view (looseW view looseN) mean mg mb h₀)
    (N : News h₀ L s.heap ((L + 5, c5) :: (L + 4, c4) :: (L + 3, c3) :: (L + 2, c2) :: (L + 1, c1) :: (d, od) :: (p, op) :: (q, oq) :: R)) (d3 : c3.data = .cell (some (.ref d)))
    (hmp : m (Str.ofString "pen") = some (.ref p)) (hmk : m (Str.ofString "key") = some (.str k kt)) (hpen : IsPen q op oq) (hpq : @Ne Nat p q) (hdp : @Ne Nat d p) (hdq : @Ne Nat d q) (np1 : @Ne Nat (L + 1) p) (np2 : @Ne Nat (L + 2) p) (np3 : @Ne Nat (L + 3) p) (np4 : @Ne Nat (L + 4) p) (np5 : @Ne Nat (L + 5) p) (nq1 : @Ne Nat (L + 1) q) (nq2 : @Ne Nat (L + 2) q) (nq3 : @Ne Nat (L + 3) q) (nq4 : @Ne Nat (L + 4) q) (nq5 : @Ne Nat (L + 5) q) (nd1 : @Ne Nat (L + 1) d) (nd2 : @Ne Nat (L + 2) d) (nd3 : @Ne Nat (L + 3) d) (nd4 : @Ne Nat (L + 4) d) (nd5 : @Ne Nat (L + 5) d)
    (hRp : ∀ x ∈ R, x.1 ≠ p) (hRq : ∀ x ∈ R, x.1 ≠ q) (hRd : ∀ x ∈ R, x.1 ≠ d) (hle : kvs.length ≤ 60)
    {v : Value} (hdo : od.IsDictOf (SK w) (kvs ++ [(k, v)])) (hkn : k ∉ kvs.map (·.1))
    (ret : ∀ h' tk' op' oq' od' R' v', Fr h₀ L h' m → News h₀ L h' ((L + 5, c5) :: (L + 4, c4) :: (L + 3, c3) :: (L + 2, c2) :: (L + 1, c1) :: (d, od') :: (p, op') :: (q, oq') :: (R ++ R')) → IsPen q op' oq' → od'.IsDictOf (SK w) (kvs ++ [(k, v')]) → (v' = v ∧ R' = [] ∨ own k = true ∧ ∃ dd, Has R' v' dd) → Apart R' ((L + 5, c5) :: (L + 4, c4) :: (L + 3, c3) :: (L + 2, c2) :: (L + 1, c1) :: (d, od) :: (p, op) :: (q, oq) :: R) → P { s with heap := h', toks := tk' }) :
    wpAny (model PySem.Challenge.rw_nn0123_01.row.prog w) (callerA.deeper (envOfC (Str.ofString "law") (lawS w) L fa cd)) (execs (((forB w).drop 1).take 1) (envOfC (Str.ofString "law") (lawS w) L fa cd)) (AtEnd P) E s := by
  revert X; k_fill; intro X
  have e1 : forB w = [_, _, _] := rfl
  have e2 : lawS w = ⟨_, _, _, _, _⟩ := rfl
  rw [e1, e2]
  dsimp only [List.drop, List.take]
  clear e1 e2
  obtain ⟨m0, rfl⟩ : ∃ m0 : Str → Option Value, m = fun y => if y = Str.ofString "key" then some (.str k kt) else if y = Str.ofString "pen" then some (.ref p) else m0 y := ⟨m, by
    funext y
    by_cases hy : y = Str.ofString "key"
    · rw [if_pos hy, hy, hmk]
    · rw [if_neg hy]
      by_cases hy : y = Str.ofString "pen"
      · rw [if_pos hy, hy, hmp]
      · rw [if_neg hy]⟩
  clear hmp hmk
  (try k_fold)
  (k_steps; repeat' ((refine Hold.mk ?_; first | ((with_reducible show wpAny _ _ (call (Value.ref 446) [_, _]) _ _ _); (refine' array_ok ?B ?F ?X ?T ?hk ?N ?U1 ?U2 ?hp ?hpq ?hm0 ?hm1 ?hd ?hu ?_; (case B => k_asm); (case F => k_asm); (case X => k_asm); (case T => k_asm); (case hk => first | exact rfl | assumption); (case N => k_asm); (case U1 => k_updF); (case hp => assumption); (case hpq => assumption); (case U2 => (intro zo8; (try dsimp only); k_updF)); (case hm0 => omega); (case hm1 => omega); (case hd => ktr_room); (case hu => ktr_units)); intro zv9 zR9 zdd9 zh9 ztk9 zop9 zoq9 zF9 zN9 zhp9 zhb9 zhf9 zhr9; (try dsimp only at zN9); refine Hold.out ?_) | ((with_reducible show wpAny _ _ (call (Value.ref 441) [_]) _ _ _); (refine' part_ok ?B ?F ?X ?T ?hk ?N ?U1 ?U2 ?hp ?hpq  ?hd ?hu ?_; (case B => k_asm); (case F => k_asm); (case X => k_asm); (case T => k_asm); (case hk => first | exact rfl | assumption); (case N => k_asm); (case U1 => k_updF); (case hp => assumption); (case hpq => assumption); (case U2 => (intro zo8; (try dsimp only); k_updF)); (case hd => ktr_room); (case hu => ktr_units)); intro zv9 zR9 zpp9 zh9 ztk9 zop9 zoq9 zF9 zN9 zhp9 zhb9 zhf9 zhr9; (try dsimp only at zN9); refine Hold.out ?_) | ((with_reducible show wpAny _ _ (call (Value.ref 434) [_, _]) _ _ _); (refine' pick_ok ?B ?F ?X ?T ?hk ?N ?U1 ?U2 ?hp ?hpq ?hl ?hlp ?hne ?hle ?hd ?hu ?_; (case B => k_asm); (case F => k_asm); (case X => k_asm); (case T => k_asm); (case hk => first | exact rfl | assumption); (case N => k_asm); (case U1 => k_updF); (case hp => assumption); (case hpq => assumption); (case U2 => (intro zo8; (try dsimp only); k_updF)); (case hl => exact (news_here (by assumption) (by k_mem))); (case hlp => exact off2 (by k_ne) (by k_ne)); (case hne => exact Nat.le_of_ble_eq_true rfl); (case hle => exact Nat.le_of_ble_eq_true rfl); (case hd => ktr_room); (case hu => ktr_units)); intro zv9 zh9 ztk9 zop9 zoq9 zF9 zN9 zhp9 zhb9 zhm9; (try dsimp only at zN9); refine Hold.out ?_) | ((with_reducible show wpAny _ _ (call (Value.ref 427) [_, _]) _ _ _); (refine' draw_pen ?B ?F ?X ?T ?hk ?N ?U1 ?U2 ?hp ?hpq ?hm ?hd ?hu ?_; (case B => k_asm); (case F => k_asm); (case X => k_asm); (case T => k_asm); (case hk => first | exact rfl | assumption); (case N => k_asm); (case U1 => k_updF); (case hp => assumption); (case hpq => assumption); (case U2 => (intro zo8; (try dsimp only); k_updF)); (case hm => first | decide | omega); (case hd => ktr_room); (case hu => ktr_units)); intro zr9 zt9 zh9 ztk9 zop9 zoq9 zF9 zN9 zhp9 zhb9 zh09 zh19; (try dsimp only at zN9))); k_steps))
  unfold Hold
  refine in_tuple_strs (ys := [Str.ofString "W", Str.ofString "Index"]) ⟨_, news_here (by assumption) (by k_mem), rfl, _, rfl⟩ (.cons _ _ (.cons _ _ .nil)) ?_
  cases ho : ([Str.ofString "W", Str.ofString "Index"].any (· == k)) with
  | false =>
    (k_steps; repeat' ((refine Hold.mk ?_; first | ((with_reducible show wpAny _ _ (call (Value.ref 446) [_, _]) _ _ _); (refine' array_ok ?B ?F ?X ?T ?hk ?N ?U1 ?U2 ?hp ?hpq ?hm0 ?hm1 ?hd ?hu ?_; (case B => k_asm); (case F => k_asm); (case X => k_asm); (case T => k_asm); (case hk => first | exact rfl | assumption); (case N => k_asm); (case U1 => k_updF); (case hp => assumption); (case hpq => assumption); (case U2 => (intro zo8; (try dsimp only); k_updF)); (case hm0 => omega); (case hm1 => omega); (case hd => ktr_room); (case hu => ktr_units)); intro zv9 zR9 zdd9 zh9 ztk9 zop9 zoq9 zF9 zN9 zhp9 zhb9 zhf9 zhr9; (try dsimp only at zN9); refine Hold.out ?_) | ((with_reducible show wpAny _ _ (call (Value.ref 441) [_]) _ _ _); (refine' part_ok ?B ?F ?X ?T ?hk ?N ?U1 ?U2 ?hp ?hpq  ?hd ?hu ?_; (case B => k_asm); (case F => k_asm); (case X => k_asm); (case T => k_asm); (case hk => first | exact rfl | assumption); (case N => k_asm); (case U1 => k_updF); (case hp => assumption); (case hpq => assumption); (case U2 => (intro zo8; (try dsimp only); k_updF)); (case hd => ktr_room); (case hu => ktr_units)); intro zv9 zR9 zpp9 zh9 ztk9 zop9 zoq9 zF9 zN9 zhp9 zhb9 zhf9 zhr9; (try dsimp only at zN9); refine Hold.out ?_) | ((with_reducible show wpAny _ _ (call (Value.ref 434) [_, _]) _ _ _); (refine' pick_ok ?B ?F ?X ?T ?hk ?N ?U1 ?U2 ?hp ?hpq ?hl ?hlp ?hne ?hle ?hd ?hu ?_; (case B => k_asm); (case F => k_asm); (case X => k_asm); (case T => k_asm); (case hk => first | exact rfl | assumption); (case N => k_asm); (case U1 => k_updF); (case hp => assumption); (case hpq => assumption); (case U2 => (intro zo8; (try dsimp only); k_updF)); (case hl => exact (news_here (by assumption) (by k_mem))); (case hlp => exact off2 (by k_ne) (by k_ne)); (case hne => exact Nat.le_of_ble_eq_true rfl); (case hle => exact Nat.le_of_ble_eq_true rfl); (case hd => ktr_room); (case hu => ktr_units)); intro zv9 zh9 ztk9 zop9 zoq9 zF9 zN9 zhp9 zhb9 zhm9; (try dsimp only at zN9); refine Hold.out ?_) | ((with_reducible show wpAny _ _ (call (Value.ref 427) [_, _]) _ _ _); (refine' draw_pen ?B ?F ?X ?T ?hk ?N ?U1 ?U2 ?hp ?hpq ?hm ?hd ?hu ?_; (case B => k_asm); (case F => k_asm); (case X => k_asm); (case T => k_asm); (case hk => first | exact rfl | assumption); (case N => k_asm); (case U1 => k_updF); (case hp => assumption); (case hpq => assumption); (case U2 => (intro zo8; (try dsimp only); k_updF)); (case hm => first | decide | omega); (case hd => ktr_room); (case hu => ktr_units)); intro zr9 zt9 zh9 ztk9 zop9 zoq9 zF9 zN9 zhp9 zhb9 zh09 zh19; (try dsimp only at zN9))); k_steps))
    unfold AtEnd
    dsimp only [Hold]
    exact ret _ _ _ _ _ [] v (by assumption) (news_sub (by assumption) (by intro y hy; simp only [List.mem_append, List.mem_cons, List.not_mem_nil, or_false] at hy; rcases hy with rfl | rfl | rfl | rfl | rfl | rfl | rfl | rfl | hy <;> first | k_mem | (repeat (first | exact hy | refine List.mem_cons_of_mem _ ?_)))) hpen hdo (.inl ⟨rfl, rfl⟩) apart_nil
  | true =>
    (k_steps; repeat' ((refine Hold.mk ?_; first | ((with_reducible show wpAny _ _ (call (Value.ref 446) [_, _]) _ _ _); (refine' array_ok ?B ?F ?X ?T ?hk ?N ?U1 ?U2 ?hp ?hpq ?hm0 ?hm1 ?hd ?hu ?_; (case B => k_asm); (case F => k_asm); (case X => k_asm); (case T => k_asm); (case hk => first | exact rfl | assumption); (case N => k_asm); (case U1 => k_updF); (case hp => assumption); (case hpq => assumption); (case U2 => (intro zo8; (try dsimp only); k_updF)); (case hm0 => omega); (case hm1 => omega); (case hd => ktr_room); (case hu => ktr_units)); intro zv9 zR9 zdd9 zh9 ztk9 zop9 zoq9 zF9 zN9 zhp9 zhb9 zhf9 zhr9; (try dsimp only at zN9); refine Hold.out ?_) | ((with_reducible show wpAny _ _ (call (Value.ref 441) [_]) _ _ _); (refine' part_ok ?B ?F ?X ?T ?hk ?N ?U1 ?U2 ?hp ?hpq  ?hd ?hu ?_; (case B => k_asm); (case F => k_asm); (case X => k_asm); (case T => k_asm); (case hk => first | exact rfl | assumption); (case N => k_asm); (case U1 => k_updF); (case hp => assumption); (case hpq => assumption); (case U2 => (intro zo8; (try dsimp only); k_updF)); (case hd => ktr_room); (case hu => ktr_units)); intro zv9 zR9 zpp9 zh9 ztk9 zop9 zoq9 zF9 zN9 zhp9 zhb9 zhf9 zhr9; (try dsimp only at zN9); refine Hold.out ?_) | ((with_reducible show wpAny _ _ (call (Value.ref 434) [_, _]) _ _ _); (refine' pick_ok ?B ?F ?X ?T ?hk ?N ?U1 ?U2 ?hp ?hpq ?hl ?hlp ?hne ?hle ?hd ?hu ?_; (case B => k_asm); (case F => k_asm); (case X => k_asm); (case T => k_asm); (case hk => first | exact rfl | assumption); (case N => k_asm); (case U1 => k_updF); (case hp => assumption); (case hpq => assumption); (case U2 => (intro zo8; (try dsimp only); k_updF)); (case hl => exact (news_here (by assumption) (by k_mem))); (case hlp => exact off2 (by k_ne) (by k_ne)); (case hne => exact Nat.le_of_ble_eq_true rfl); (case hle => exact Nat.le_of_ble_eq_true rfl); (case hd => ktr_room); (case hu => ktr_units)); intro zv9 zh9 ztk9 zop9 zoq9 zF9 zN9 zhp9 zhb9 zhm9; (try dsimp only at zN9); refine Hold.out ?_) | ((with_reducible show wpAny _ _ (call (Value.ref 427) [_, _]) _ _ _); (refine' draw_pen ?B ?F ?X ?T ?hk ?N ?U1 ?U2 ?hp ?hpq ?hm ?hd ?hu ?_; (case B => k_asm); (case F => k_asm); (case X => k_asm); (case T => k_asm); (case hk => first | exact rfl | assumption); (case N => k_asm); (case U1 => k_updF); (case hp => assumption); (case hpq => assumption); (case U2 => (intro zo8; (try dsimp only); k_updF)); (case hm => first | decide | omega); (case hd => ktr_room); (case hu => ktr_units)); intro zr9 zt9 zh9 ztk9 zop9 zoq9 zF9 zN9 zhp9 zhb9 zh09 zh19; (try dsimp only at zN9))); k_steps))
    · unfold Hold
      rename Fr h₀ _ _ _ => F9
      rename News h₀ _ _ _ => N9
      rename ∀ x ∈ _, _ ∧ _ => hf9
      rename Has _ _ _ => hr9
      rename IsPen q _ _ => hp9
      rename List (Addr × Obj) => R9
      have ap9 : Apart R9 ((L + 5, c5) :: (L + 4, c4) :: (L + 3, c3) :: (L + 2, c2) :: (L + 1, c1) :: (d, od) :: (p, op) :: (q, oq) :: R) := apart_of (by assumption) hf9 (by intro y hy; simp only [List.mem_cons] at hy; rcases hy with rfl | rfl | rfl | rfl | rfl | rfl | rfl | rfl | hy <;> first | exact ⟨_, by k_mem⟩ | exact ⟨y.2, by repeat (first | exact hy | exact List.mem_append_left _ hy | refine List.mem_cons_of_mem _ ?_)⟩)
      have N10 := news_add N9 (by assumption) hf9
      simp only [List.cons_append] at N10
      clear N9
      have hRp : ∀ x ∈ R ++ R9, x.1 ≠ p := List.forall_mem_append.mpr ⟨hRp, fun x hx => ap9 x hx (p, op) (by k_mem)⟩
      have hRq : ∀ x ∈ R ++ R9, x.1 ≠ q := List.forall_mem_append.mpr ⟨hRq, fun x hx => ap9 x hx (q, oq) (by k_mem)⟩
      have hRd : ∀ x ∈ R ++ R9, x.1 ≠ d := List.forall_mem_append.mpr ⟨hRd, fun x hx => ap9 x hx (d, od) (by k_mem)⟩
      (k_steps; repeat' ((refine Hold.mk ?_; first | ((with_reducible show wpAny _ _ (call (Value.ref 446) [_, _]) _ _ _); (refine' array_ok ?B ?F ?X ?T ?hk ?N ?U1 ?U2 ?hp ?hpq ?hm0 ?hm1 ?hd ?hu ?_; (case B => k_asm); (case F => k_asm); (case X => k_asm); (case T => k_asm); (case hk => first | exact rfl | assumption); (case N => k_asm); (case U1 => k_updF); (case hp => assumption); (case hpq => assumption); (case U2 => (intro zo8; (try dsimp only); k_updF)); (case hm0 => omega); (case hm1 => omega); (case hd => ktr_room); (case hu => ktr_units)); intro zv9 zR9 zdd9 zh9 ztk9 zop9 zoq9 zF9 zN9 zhp9 zhb9 zhf9 zhr9; (try dsimp only at zN9); refine Hold.out ?_) | ((with_reducible show wpAny _ _ (call (Value.ref 441) [_]) _ _ _); (refine' part_ok ?B ?F ?X ?T ?hk ?N ?U1 ?U2 ?hp ?hpq  ?hd ?hu ?_; (case B => k_asm); (case F => k_asm); (case X => k_asm); (case T => k_asm); (case hk => first | exact rfl | assumption); (case N => k_asm); (case U1 => k_updF); (case hp => assumption); (case hpq => assumption); (case U2 => (intro zo8; (try dsimp only); k_updF)); (case hd => ktr_room); (case hu => ktr_units)); intro zv9 zR9 zpp9 zh9 ztk9 zop9 zoq9 zF9 zN9 zhp9 zhb9 zhf9 zhr9; (try dsimp only at zN9); refine Hold.out ?_) | ((with_reducible show wpAny _ _ (call (Value.ref 434) [_, _]) _ _ _); (refine' pick_ok ?B ?F ?X ?T ?hk ?N ?U1 ?U2 ?hp ?hpq ?hl ?hlp ?hne ?hle ?hd ?hu ?_; (case B => k_asm); (case F => k_asm); (case X => k_asm); (case T => k_asm); (case hk => first | exact rfl | assumption); (case N => k_asm); (case U1 => k_updF); (case hp => assumption); (case hpq => assumption); (case U2 => (intro zo8; (try dsimp only); k_updF)); (case hl => exact (news_here (by assumption) (by k_mem))); (case hlp => exact off2 (by k_ne) (by k_ne)); (case hne => exact Nat.le_of_ble_eq_true rfl); (case hle => exact Nat.le_of_ble_eq_true rfl); (case hd => ktr_room); (case hu => ktr_units)); intro zv9 zh9 ztk9 zop9 zoq9 zF9 zN9 zhp9 zhb9 zhm9; (try dsimp only at zN9); refine Hold.out ?_) | ((with_reducible show wpAny _ _ (call (Value.ref 427) [_, _]) _ _ _); (refine' draw_pen ?B ?F ?X ?T ?hk ?N ?U1 ?U2 ?hp ?hpq ?hm ?hd ?hu ?_; (case B => k_asm); (case F => k_asm); (case X => k_asm); (case T => k_asm); (case hk => first | exact rfl | assumption); (case N => k_asm); (case U1 => k_updF); (case hp => assumption); (case hpq => assumption); (case U2 => (intro zo8; (try dsimp only); k_updF)); (case hm => first | decide | omega); (case hd => ktr_room); (case hu => ktr_units)); intro zr9 zt9 zh9 ztk9 zop9 zoq9 zF9 zN9 zhp9 zhb9 zh09 zh19; (try dsimp only at zN9))); k_steps))
      unfold Hold
      rename Fr h₀ _ _ _ => F9
      rename News h₀ _ _ _ => N9
      refine kda_set (knd := SK w) F9 N9 (by k_updF) hdo (strKind_is _ _ _ _) (by rw [sizeLine_eq]; (try simp only [List.length_append, List.length_cons, List.length_nil]); omega) ?_
      intro h6 o6 F6 N6 hd6
      (try dsimp only at N6)
      (k_steps; repeat' ((refine Hold.mk ?_; first | ((with_reducible show wpAny _ _ (call (Value.ref 446) [_, _]) _ _ _); (refine' array_ok ?B ?F ?X ?T ?hk ?N ?U1 ?U2 ?hp ?hpq ?hm0 ?hm1 ?hd ?hu ?_; (case B => k_asm); (case F => k_asm); (case X => k_asm); (case T => k_asm); (case hk => first | exact rfl | assumption); (case N => k_asm); (case U1 => k_updF); (case hp => assumption); (case hpq => assumption); (case U2 => (intro zo8; (try dsimp only); k_updF)); (case hm0 => omega); (case hm1 => omega); (case hd => ktr_room); (case hu => ktr_units)); intro zv9 zR9 zdd9 zh9 ztk9 zop9 zoq9 zF9 zN9 zhp9 zhb9 zhf9 zhr9; (try dsimp only at zN9); refine Hold.out ?_) | ((with_reducible show wpAny _ _ (call (Value.ref 441) [_]) _ _ _); (refine' part_ok ?B ?F ?X ?T ?hk ?N ?U1 ?U2 ?hp ?hpq  ?hd ?hu ?_; (case B => k_asm); (case F => k_asm); (case X => k_asm); (case T => k_asm); (case hk => first | exact rfl | assumption); (case N => k_asm); (case U1 => k_updF); (case hp => assumption); (case hpq => assumption); (case U2 => (intro zo8; (try dsimp only); k_updF)); (case hd => ktr_room); (case hu => ktr_units)); intro zv9 zR9 zpp9 zh9 ztk9 zop9 zoq9 zF9 zN9 zhp9 zhb9 zhf9 zhr9; (try dsimp only at zN9); refine Hold.out ?_) | ((with_reducible show wpAny _ _ (call (Value.ref 434) [_, _]) _ _ _); (refine' pick_ok ?B ?F ?X ?T ?hk ?N ?U1 ?U2 ?hp ?hpq ?hl ?hlp ?hne ?hle ?hd ?hu ?_; (case B => k_asm); (case F => k_asm); (case X => k_asm); (case T => k_asm); (case hk => first | exact rfl | assumption); (case N => k_asm); (case U1 => k_updF); (case hp => assumption); (case hpq => assumption); (case U2 => (intro zo8; (try dsimp only); k_updF)); (case hl => exact (news_here (by assumption) (by k_mem))); (case hlp => exact off2 (by k_ne) (by k_ne)); (case hne => exact Nat.le_of_ble_eq_true rfl); (case hle => exact Nat.le_of_ble_eq_true rfl); (case hd => ktr_room); (case hu => ktr_units)); intro zv9 zh9 ztk9 zop9 zoq9 zF9 zN9 zhp9 zhb9 zhm9; (try dsimp only at zN9); refine Hold.out ?_) | ((with_reducible show wpAny _ _ (call (Value.ref 427) [_, _]) _ _ _); (refine' draw_pen ?B ?F ?X ?T ?hk ?N ?U1 ?U2 ?hp ?hpq ?hm ?hd ?hu ?_; (case B => k_asm); (case F => k_asm); (case X => k_asm); (case T => k_asm); (case hk => first | exact rfl | assumption); (case N => k_asm); (case U1 => k_updF); (case hp => assumption); (case hpq => assumption); (case U2 => (intro zo8; (try dsimp only); k_updF)); (case hm => first | decide | omega); (case hd => ktr_room); (case hu => ktr_units)); intro zr9 zt9 zh9 ztk9 zop9 zoq9 zF9 zN9 zhp9 zhb9 zh09 zh19; (try dsimp only at zN9))); k_steps))
      unfold AtEnd
      dsimp only [Hold]
      rw [stored_last hkn] at hd6
      exact ret _ _ _ _ _ R9 _ (by assumption) (news_sub (by assumption) (by intro y hy; simp only [List.mem_cons] at hy; rcases hy with rfl | rfl | rfl | rfl | rfl | rfl | rfl | rfl | hy <;> first | k_mem | (repeat (first | exact hy | refine List.mem_cons_of_mem _ ?_)))) hp9 hd6 (.inr ⟨wi_own ho, _, hr9⟩) ap9
    · unfold Hold
      rename Fr h₀ _ _ _ => F9
      rename News h₀ _ _ _ => N9
      rename ∀ x ∈ _, _ ∧ _ => hf9
      rename Has _ _ _ => hr9
      rename IsPen q _ _ => hp9
      rename List (Addr × Obj) => R9
      have ap9 : Apart R9 ((L + 5, c5) :: (L + 4, c4) :: (L + 3, c3) :: (L + 2, c2) :: (L + 1, c1) :: (d, od) :: (p, op) :: (q, oq) :: R) := apart_of (by assumption) hf9 (by intro y hy; simp only [List.mem_cons] at hy; rcases hy with rfl | rfl | rfl | rfl | rfl | rfl | rfl | rfl | hy <;> first | exact ⟨_, by k_mem⟩ | exact ⟨y.2, by repeat (first | exact hy | exact List.mem_append_left _ hy | refine List.mem_cons_of_mem _ ?_)⟩)
      have N10 := news_add N9 (by assumption) hf9
      simp only [List.cons_append] at N10
      clear N9
      have hRp : ∀ x ∈ R ++ R9, x.1 ≠ p := List.forall_mem_append.mpr ⟨hRp, fun x hx => ap9 x hx (p, op) (by k_mem)⟩
      have hRq : ∀ x ∈ R ++ R9, x.1 ≠ q := List.forall_mem_append.mpr ⟨hRq, fun x hx => ap9 x hx (q, oq) (by k_mem)⟩
      have hRd : ∀ x ∈ R ++ R9, x.1 ≠ d := List.forall_mem_append.mpr ⟨hRd, fun x hx => ap9 x hx (d, od) (by k_mem)⟩
      (k_steps; repeat' ((refine Hold.mk ?_; first | ((with_reducible show wpAny _ _ (call (Value.ref 446) [_, _]) _ _ _); (refine' array_ok ?B ?F ?X ?T ?hk ?N ?U1 ?U2 ?hp ?hpq ?hm0 ?hm1 ?hd ?hu ?_; (case B => k_asm); (case F => k_asm); (case X => k_asm); (case T => k_asm); (case hk => first | exact rfl | assumption); (case N => k_asm); (case U1 => k_updF); (case hp => assumption); (case hpq => assumption); (case U2 => (intro zo8; (try dsimp only); k_updF)); (case hm0 => omega); (case hm1 => omega); (case hd => ktr_room); (case hu => ktr_units)); intro zv9 zR9 zdd9 zh9 ztk9 zop9 zoq9 zF9 zN9 zhp9 zhb9 zhf9 zhr9; (try dsimp only at zN9); refine Hold.out ?_) | ((with_reducible show wpAny _ _ (call (Value.ref 441) [_]) _ _ _); (refine' part_ok ?B ?F ?X ?T ?hk ?N ?U1 ?U2 ?hp ?hpq  ?hd ?hu ?_; (case B => k_asm); (case F => k_asm); (case X => k_asm); (case T => k_asm); (case hk => first | exact rfl | assumption); (case N => k_asm); (case U1 => k_updF); (case hp => assumption); (case hpq => assumption); (case U2 => (intro zo8; (try dsimp only); k_updF)); (case hd => ktr_room); (case hu => ktr_units)); intro zv9 zR9 zpp9 zh9 ztk9 zop9 zoq9 zF9 zN9 zhp9 zhb9 zhf9 zhr9; (try dsimp only at zN9); refine Hold.out ?_) | ((with_reducible show wpAny _ _ (call (Value.ref 434) [_, _]) _ _ _); (refine' pick_ok ?B ?F ?X ?T ?hk ?N ?U1 ?U2 ?hp ?hpq ?hl ?hlp ?hne ?hle ?hd ?hu ?_; (case B => k_asm); (case F => k_asm); (case X => k_asm); (case T => k_asm); (case hk => first | exact rfl | assumption); (case N => k_asm); (case U1 => k_updF); (case hp => assumption); (case hpq => assumption); (case U2 => (intro zo8; (try dsimp only); k_updF)); (case hl => exact (news_here (by assumption) (by k_mem))); (case hlp => exact off2 (by k_ne) (by k_ne)); (case hne => exact Nat.le_of_ble_eq_true rfl); (case hle => exact Nat.le_of_ble_eq_true rfl); (case hd => ktr_room); (case hu => ktr_units)); intro zv9 zh9 ztk9 zop9 zoq9 zF9 zN9 zhp9 zhb9 zhm9; (try dsimp only at zN9); refine Hold.out ?_) | ((with_reducible show wpAny _ _ (call (Value.ref 427) [_, _]) _ _ _); (refine' draw_pen ?B ?F ?X ?T ?hk ?N ?U1 ?U2 ?hp ?hpq ?hm ?hd ?hu ?_; (case B => k_asm); (case F => k_asm); (case X => k_asm); (case T => k_asm); (case hk => first | exact rfl | assumption); (case N => k_asm); (case U1 => k_updF); (case hp => assumption); (case hpq => assumption); (case U2 => (intro zo8; (try dsimp only); k_updF)); (case hm => first | decide | omega); (case hd => ktr_room); (case hu => ktr_units)); intro zr9 zt9 zh9 ztk9 zop9 zoq9 zF9 zN9 zhp9 zhb9 zh09 zh19; (try dsimp only at zN9))); k_steps))
      unfold Hold
      rename Fr h₀ _ _ _ => F9
      rename News h₀ _ _ _ => N9
      refine kda_set (knd := SK w) F9 N9 (by k_updF) hdo (strKind_is _ _ _ _) (by rw [sizeLine_eq]; (try simp only [List.length_append, List.length_cons, List.length_nil]); omega) ?_
      intro h6 o6 F6 N6 hd6
      (try dsimp only at N6)
      (k_steps; repeat' ((refine Hold.mk ?_; first | ((with_reducible show wpAny _ _ (call (Value.ref 446) [_, _]) _ _ _); (refine' array_ok ?B ?F ?X ?T ?hk ?N ?U1 ?U2 ?hp ?hpq ?hm0 ?hm1 ?hd ?hu ?_; (case B => k_asm); (case F => k_asm); (case X => k_asm); (case T => k_asm); (case hk => first | exact rfl | assumption); (case N => k_asm); (case U1 => k_updF); (case hp => assumption); (case hpq => assumption); (case U2 => (intro zo8; (try dsimp only); k_updF)); (case hm0 => omega); (case hm1 => omega); (case hd => ktr_room); (case hu => ktr_units)); intro zv9 zR9 zdd9 zh9 ztk9 zop9 zoq9 zF9 zN9 zhp9 zhb9 zhf9 zhr9; (try dsimp only at zN9); refine Hold.out ?_) | ((with_reducible show wpAny _ _ (call (Value.ref 441) [_]) _ _ _); (refine' part_ok ?B ?F ?X ?T ?hk ?N ?U1 ?U2 ?hp ?hpq  ?hd ?hu ?_; (case B => k_asm); (case F => k_asm); (case X => k_asm); (case T => k_asm); (case hk => first | exact rfl | assumption); (case N => k_asm); (case U1 => k_updF); (case hp => assumption); (case hpq => assumption); (case U2 => (intro zo8; (try dsimp only); k_updF)); (case hd => ktr_room); (case hu => ktr_units)); intro zv9 zR9 zpp9 zh9 ztk9 zop9 zoq9 zF9 zN9 zhp9 zhb9 zhf9 zhr9; (try dsimp only at zN9); refine Hold.out ?_) | ((with_reducible show wpAny _ _ (call (Value.ref 434) [_, _]) _ _ _); (refine' pick_ok ?B ?F ?X ?T ?hk ?N ?U1 ?U2 ?hp ?hpq ?hl ?hlp ?hne ?hle ?hd ?hu ?_; (case B => k_asm); (case F => k_asm); (case X => k_asm); (case T => k_asm); (case hk => first | exact rfl | assumption); (case N => k_asm); (case U1 => k_updF); (case hp => assumption); (case hpq => assumption); (case U2 => (intro zo8; (try dsimp only); k_updF)); (case hl => exact (news_here (by assumption) (by k_mem))); (case hlp => exact off2 (by k_ne) (by k_ne)); (case hne => exact Nat.le_of_ble_eq_true rfl); (case hle => exact Nat.le_of_ble_eq_true rfl); (case hd => ktr_room); (case hu => ktr_units)); intro zv9 zh9 ztk9 zop9 zoq9 zF9 zN9 zhp9 zhb9 zhm9; (try dsimp only at zN9); refine Hold.out ?_) | ((with_reducible show wpAny _ _ (call (Value.ref 427) [_, _]) _ _ _); (refine' draw_pen ?B ?F ?X ?T ?hk ?N ?U1 ?U2 ?hp ?hpq ?hm ?hd ?hu ?_; (case B => k_asm); (case F => k_asm); (case X => k_asm); (case T => k_asm); (case hk => first | exact rfl | assumption); (case N => k_asm); (case U1 => k_updF); (case hp => assumption); (case hpq => assumption); (case U2 => (intro zo8; (try dsimp only); k_updF)); (case hm => first | decide | omega); (case hd => ktr_room); (case hu => ktr_units)); intro zr9 zt9 zh9 ztk9 zop9 zoq9 zF9 zN9 zhp9 zhb9 zh09 zh19; (try dsimp only at zN9))); k_steps))
      unfold AtEnd
      dsimp only [Hold]
      rw [stored_last hkn] at hd6
      exact ret _ _ _ _ _ R9 _ (by assumption) (news_sub (by assumption) (by intro y hy; simp only [List.mem_cons] at hy; rcases hy with rfl | rfl | rfl | rfl | rfl | rfl | rfl | rfl | hy <;> first | k_mem | (repeat (first | exact hy | refine List.mem_cons_of_mem _ ?_)))) hp9 hd6 (.inr ⟨wi_own ho, _, hr9⟩) ap9
theorem hb_c {w : World} {mean : ExcName → Option Value} {mg mb : Str → Option Value} {h₀ : Heap} {L fa : Addr} {cd : Value} {m : Str → Option Value} {s : Shared} {E : Value → Shared → Prop} {P : Shared → Prop} {R : List (Addr × Obj)} {c5 c4 c3 c2 c1 : Obj} {d p q : Addr} {op oq od : Obj} {k : Str} {kt : Tok} {kvs : List (Str × Value)}
    (B : Below callerA h₀ [] h₀) (F : Fr h₀ L s.heap m) (X : (hd.heap_1 w.params).In h₀) (T : Top view (looseW view looseN) mean mg mb h₀)
    (N : News h₀ L s.heap ((L + 5, c5) :: (L + 4, c4) :: (L + 3, c3) :: (L + 2, c2) :: (L + 1, c1) :: (d, od) :: (p, op) :: (q, oq) :: R)) (d3 : c3.data = .cell (some (.ref d)))
    (hmp : m (Str.ofString "pen") = some (.ref p)) (hmk : m (Str.ofString "key") = some (.str k kt)) (hpen : IsPen q op oq) (hpq : @Ne Nat p q) (hdp : @Ne Nat d p) (hdq : @Ne Nat d q) (np1 : @Ne Nat (L + 1) p) (np2 : @Ne Nat (L + 2) p) (np3 : @Ne Nat (L + 3) p) (np4 : @Ne Nat (L + 4) p) (np5 : @Ne Nat (L + 5) p) (nq1 : @Ne Nat (L + 1) q) (nq2 : @Ne Nat (L + 2) q) (nq3 : @Ne Nat (L + 3) q) (nq4 : @Ne Nat (L + 4) q) (nq5 : @Ne Nat (L + 5) q) (nd1 : @Ne Nat (L + 1) d) (nd2 : @Ne Nat (L + 2) d) (nd3 : @Ne Nat (L + 3) d) (nd4 : @Ne Nat (L + 4) d) (nd5 : @Ne Nat (L + 5) d)
    (hRp : ∀ x ∈ R, x.1 ≠ p) (hRq : ∀ x ∈ R, x.1 ≠ q) (hRd : ∀ x ∈ R, x.1 ≠ d) (hle : kvs.length ≤ 60)
    {v : Value} (hdo : od.IsDictOf (SK w) (kvs ++ [(k, v)])) (hkn : k ∉ kvs.map (·.1))
    (ret : ∀ h' tk' op' oq' od' R' v', Fr h₀ L h' m → News h₀ L h' ((L + 5, c5) :: (L + 4, c4) :: (L + 3, c3) :: (L + 2, c2) :: (L + 1, c1) :: (d, od') :: (p, op') :: (q, oq') :: (R ++ R')) → IsPen q op' oq' → od'.IsDictOf (SK w) (kvs ++ [(k, v')]) → (v' = v ∧ R' = [] ∨ own k = true ∧ ∃ dd, Has R' v' dd) → Apart R' ((L + 5, c5) :: (L + 4, c4) :: (L + 3, c3) :: (L + 2, c2) :: (L + 1, c1) :: (d, od) :: (p, op) :: (q, oq) :: R) → P { s with heap := h', toks := tk' }) :
    wpAny (model PySem.Challenge.rw_nn0123_01.row.prog w) (callerA.deeper (envOfC (Str.ofString "law") (lawS w) L fa cd)) (execs (((forB w).drop 2).take 1) (envOfC (Str.ofString "law") (lawS w) L fa cd)) (AtEnd P) E s := by
  revert X; k_fill; intro X
  have e1 : forB w = [_, _, _] := rfl
  have e2 : lawS w = ⟨_, _, _, _, _⟩ := rfl
  rw [e1, e2]
  dsimp only [List.drop, List.take]
  clear e1 e2
  obtain ⟨m0, rfl⟩ : ∃ m0 : Str → Option Value, m = fun y => if y = Str.ofString "key" then some (.str k kt) else if y = Str.ofString "pen" then some (.ref p) else m0 y := ⟨m, by
    funext y
    by_cases hy : y = Str.ofString "key"
    · rw [if_pos hy, hy, hmk]
    · rw [if_neg hy]
      by_cases hy : y = Str.ofString "pen"
      · rw [if_pos hy, hy, hmp]
      · rw [if_neg hy]⟩
  clear hmp hmk
  (try k_fold)
  (k_steps; repeat' ((refine Hold.mk ?_; first | ((with_reducible show wpAny _ _ (call (Value.ref 446) [_, _]) _ _ _); (refine' array_ok ?B ?F ?X ?T ?hk ?N ?U1 ?U2 ?hp ?hpq ?hm0 ?hm1 ?hd ?hu ?_; (case B => k_asm); (case F => k_asm); (case X => k_asm); (case T => k_asm); (case hk => first | exact rfl | assumption); (case N => k_asm); (case U1 => k_updF); (case hp => assumption); (case hpq => assumption); (case U2 => (intro zo8; (try dsimp only); k_updF)); (case hm0 => omega); (case hm1 => omega); (case hd => ktr_room); (case hu => ktr_units)); intro zv9 zR9 zdd9 zh9 ztk9 zop9 zoq9 zF9 zN9 zhp9 zhb9 zhf9 zhr9; (try dsimp only at zN9); refine Hold.out ?_) | ((with_reducible show wpAny _ _ (call (Value.ref 441) [_]) _ _ _); (refine' part_ok ?B ?F ?X ?T ?hk ?N ?U1 ?U2 ?hp ?hpq  ?hd ?hu ?_; (case B => k_asm); (case F => k_asm); (case X => k_asm); (case T => k_asm); (case hk => first | exact rfl | assumption); (case N => k_asm); (case U1 => k_updF); (case hp => assumption); (case hpq => assumption); (case U2 => (intro zo8; (try dsimp only); k_updF)); (case hd => ktr_room); (case hu => ktr_units)); intro zv9 zR9 zpp9 zh9 ztk9 zop9 zoq9 zF9 zN9 zhp9 zhb9 zhf9 zhr9; (try dsimp only at zN9); refine Hold.out ?_) | ((with_reducible show wpAny _ _ (call (Value.ref 434) [_, _]) _ _ _); (refine' pick_ok ?B ?F ?X ?T ?hk ?N ?U1 ?U2 ?hp ?hpq ?hl ?hlp ?hne ?hle ?hd ?hu ?_; (case B => k_asm); (case F => k_asm); (case X => k_asm); (case T => k_asm); (case hk => first | exact rfl | assumption); (case N => k_asm); (case U1 => k_updF); (case hp => assumption); (case hpq => assumption); (case U2 => (intro zo8; (try dsimp only); k_updF)); (case hl => exact (news_here (by assumption) (by k_mem))); (case hlp => exact off2 (by k_ne) (by k_ne)); (case hne => exact Nat.le_of_ble_eq_true rfl); (case hle => exact Nat.le_of_ble_eq_true rfl); (case hd => ktr_room); (case hu => ktr_units)); intro zv9 zh9 ztk9 zop9 zoq9 zF9 zN9 zhp9 zhb9 zhm9; (try dsimp only at zN9); refine Hold.out ?_) | ((with_reducible show wpAny _ _ (call (Value.ref 427) [_, _]) _ _ _); (refine' draw_pen ?B ?F ?X ?T ?hk ?N ?U1 ?U2 ?hp ?hpq ?hm ?hd ?hu ?_; (case B => k_asm); (case F => k_asm); (case X => k_asm); (case T => k_asm); (case hk => first | exact rfl | assumption); (case N => k_asm); (case U1 => k_updF); (case hp => assumption); (case hpq => assumption); (case U2 => (intro zo8; (try dsimp only); k_updF)); (case hm => first | decide | omega); (case hd => ktr_room); (case hu => ktr_units)); intro zr9 zt9 zh9 ztk9 zop9 zoq9 zF9 zN9 zhp9 zhb9 zh09 zh19; (try dsimp only at zN9))); k_steps))
  · unfold Hold
    rename _ ∈ [_, _, _, _, _] => hm9
    rename (k == _) = true => hkt
    obtain ⟨g1, g2, g3, g4, g5, g6, g7, g8, hlt⟩ : _ ∧ _ ∧ _ ∧ _ ∧ _ ∧ _ ∧ _ ∧ _ ∧ AllLt _ R := by assumption
    have hall : AllLt _ ((L + 5, c5) :: (L + 4, c4) :: (L + 3, c3) :: (L + 2, c2) :: (L + 1, c1) :: (d, od) :: (p, op) :: (q, oq) :: R) := ⟨g1, g2, g3, g4, g5, g6, g7, g8, hlt⟩
    rename IsPen q _ _ => hp9
    have ho := ty_own hkt
    (k_steps; repeat' ((refine Hold.mk ?_; first | ((with_reducible show wpAny _ _ (call (Value.ref 446) [_, _]) _ _ _); (refine' array_ok ?B ?F ?X ?T ?hk ?N ?U1 ?U2 ?hp ?hpq ?hm0 ?hm1 ?hd ?hu ?_; (case B => k_asm); (case F => k_asm); (case X => k_asm); (case T => k_asm); (case hk => first | exact rfl | assumption); (case N => k_asm); (case U1 => k_updF); (case hp => assumption); (case hpq => assumption); (case U2 => (intro zo8; (try dsimp only); k_updF)); (case hm0 => omega); (case hm1 => omega); (case hd => ktr_room); (case hu => ktr_units)); intro zv9 zR9 zdd9 zh9 ztk9 zop9 zoq9 zF9 zN9 zhp9 zhb9 zhf9 zhr9; (try dsimp only at zN9); refine Hold.out ?_) | ((with_reducible show wpAny _ _ (call (Value.ref 441) [_]) _ _ _); (refine' part_ok ?B ?F ?X ?T ?hk ?N ?U1 ?U2 ?hp ?hpq  ?hd ?hu ?_; (case B => k_asm); (case F => k_asm); (case X => k_asm); (case T => k_asm); (case hk => first | exact rfl | assumption); (case N => k_asm); (case U1 => k_updF); (case hp => assumption); (case hpq => assumption); (case U2 => (intro zo8; (try dsimp only); k_updF)); (case hd => ktr_room); (case hu => ktr_units)); intro zv9 zR9 zpp9 zh9 ztk9 zop9 zoq9 zF9 zN9 zhp9 zhb9 zhf9 zhr9; (try dsimp only at zN9); refine Hold.out ?_) | ((with_reducible show wpAny _ _ (call (Value.ref 434) [_, _]) _ _ _); (refine' pick_ok ?B ?F ?X ?T ?hk ?N ?U1 ?U2 ?hp ?hpq ?hl ?hlp ?hne ?hle ?hd ?hu ?_; (case B => k_asm); (case F => k_asm); (case X => k_asm); (case T => k_asm); (case hk => first | exact rfl | assumption); (case N => k_asm); (case U1 => k_updF); (case hp => assumption); (case hpq => assumption); (case U2 => (intro zo8; (try dsimp only); k_updF)); (case hl => exact (news_here (by assumption) (by k_mem))); (case hlp => exact off2 (by k_ne) (by k_ne)); (case hne => exact Nat.le_of_ble_eq_true rfl); (case hle => exact Nat.le_of_ble_eq_true rfl); (case hd => ktr_room); (case hu => ktr_units)); intro zv9 zh9 ztk9 zop9 zoq9 zF9 zN9 zhp9 zhb9 zhm9; (try dsimp only at zN9); refine Hold.out ?_) | ((with_reducible show wpAny _ _ (call (Value.ref 427) [_, _]) _ _ _); (refine' draw_pen ?B ?F ?X ?T ?hk ?N ?U1 ?U2 ?hp ?hpq ?hm ?hd ?hu ?_; (case B => k_asm); (case F => k_asm); (case X => k_asm); (case T => k_asm); (case hk => first | exact rfl | assumption); (case N => k_asm); (case U1 => k_updF); (case hp => assumption); (case hpq => assumption); (case U2 => (intro zo8; (try dsimp only); k_updF)); (case hm => first | decide | omega); (case hd => ktr_room); (case hu => ktr_units)); intro zr9 zt9 zh9 ztk9 zop9 zoq9 zF9 zN9 zhp9 zhb9 zh09 zh19; (try dsimp only at zN9))); k_steps))
    unfold Hold
    rename Fr h₀ _ _ _ => F9
    rename News h₀ _ _ _ => N9
    refine kda_set (knd := SK w) F9 N9 (by k_updF) hdo (strKind_is _ _ _ _) (by rw [sizeLine_eq]; (try simp only [List.length_append, List.length_cons, List.length_nil]); omega) ?_
    intro h6 o6 F6 N6 hd6
    (try dsimp only at N6)
    (k_steps; repeat' ((refine Hold.mk ?_; first | ((with_reducible show wpAny _ _ (call (Value.ref 446) [_, _]) _ _ _); (refine' array_ok ?B ?F ?X ?T ?hk ?N ?U1 ?U2 ?hp ?hpq ?hm0 ?hm1 ?hd ?hu ?_; (case B => k_asm); (case F => k_asm); (case X => k_asm); (case T => k_asm); (case hk => first | exact rfl | assumption); (case N => k_asm); (case U1 => k_updF); (case hp => assumption); (case hpq => assumption); (case U2 => (intro zo8; (try dsimp only); k_updF)); (case hm0 => omega); (case hm1 => omega); (case hd => ktr_room); (case hu => ktr_units)); intro zv9 zR9 zdd9 zh9 ztk9 zop9 zoq9 zF9 zN9 zhp9 zhb9 zhf9 zhr9; (try dsimp only at zN9); refine Hold.out ?_) | ((with_reducible show wpAny _ _ (call (Value.ref 441) [_]) _ _ _); (refine' part_ok ?B ?F ?X ?T ?hk ?N ?U1 ?U2 ?hp ?hpq  ?hd ?hu ?_; (case B => k_asm); (case F => k_asm); (case X => k_asm); (case T => k_asm); (case hk => first | exact rfl | assumption); (case N => k_asm); (case U1 => k_updF); (case hp => assumption); (case hpq => assumption); (case U2 => (intro zo8; (try dsimp only); k_updF)); (case hd => ktr_room); (case hu => ktr_units)); intro zv9 zR9 zpp9 zh9 ztk9 zop9 zoq9 zF9 zN9 zhp9 zhb9 zhf9 zhr9; (try dsimp only at zN9); refine Hold.out ?_) | ((with_reducible show wpAny _ _ (call (Value.ref 434) [_, _]) _ _ _); (refine' pick_ok ?B ?F ?X ?T ?hk ?N ?U1 ?U2 ?hp ?hpq ?hl ?hlp ?hne ?hle ?hd ?hu ?_; (case B => k_asm); (case F => k_asm); (case X => k_asm); (case T => k_asm); (case hk => first | exact rfl | assumption); (case N => k_asm); (case U1 => k_updF); (case hp => assumption); (case hpq => assumption); (case U2 => (intro zo8; (try dsimp only); k_updF)); (case hl => exact (news_here (by assumption) (by k_mem))); (case hlp => exact off2 (by k_ne) (by k_ne)); (case hne => exact Nat.le_of_ble_eq_true rfl); (case hle => exact Nat.le_of_ble_eq_true rfl); (case hd => ktr_room); (case hu => ktr_units)); intro zv9 zh9 ztk9 zop9 zoq9 zF9 zN9 zhp9 zhb9 zhm9; (try dsimp only at zN9); refine Hold.out ?_) | ((with_reducible show wpAny _ _ (call (Value.ref 427) [_, _]) _ _ _); (refine' draw_pen ?B ?F ?X ?T ?hk ?N ?U1 ?U2 ?hp ?hpq ?hm ?hd ?hu ?_; (case B => k_asm); (case F => k_asm); (case X => k_asm); (case T => k_asm); (case hk => first | exact rfl | assumption); (case N => k_asm); (case U1 => k_updF); (case hp => assumption); (case hpq => assumption); (case U2 => (intro zo8; (try dsimp only); k_updF)); (case hm => first | decide | omega); (case hd => ktr_room); (case hu => ktr_units)); intro zr9 zt9 zh9 ztk9 zop9 zoq9 zF9 zN9 zhp9 zhb9 zh09 zh19; (try dsimp only at zN9))); k_steps))
    unfold AtEnd
    dsimp only [Hold]
    rw [stored_last hkn] at hd6
    simp only [List.mem_cons, List.not_mem_nil, or_false] at hm9
    rcases hm9 with rfl | rfl | rfl | rfl | rfl
    · exact ret _ _ _ _ _ [_, _] _ (by assumption) (news_sub (by assumption) (by intro y hy; simp only [List.mem_append, List.mem_cons, List.not_mem_nil, or_false] at hy; rcases hy with rfl | rfl | rfl | rfl | rfl | rfl | rfl | rfl | hy | rfl | rfl <;> first | k_mem | (repeat (first | exact hy | refine List.mem_cons_of_mem _ ?_)))) hp9 hd6 (.inr ⟨ho, _, has_name (by rfl)⟩) (apart_lt hall (le2 (by omega) (by omega)))
    · exact ret _ _ _ _ _ [_, _] _ (by assumption) (news_sub (by assumption) (by intro y hy; simp only [List.mem_append, List.mem_cons, List.not_mem_nil, or_false] at hy; rcases hy with rfl | rfl | rfl | rfl | rfl | rfl | rfl | rfl | hy | rfl | rfl <;> first | k_mem | (repeat (first | exact hy | refine List.mem_cons_of_mem _ ?_)))) hp9 hd6 (.inr ⟨ho, _, has_name (by rfl)⟩) (apart_lt hall (le2 (by omega) (by omega)))
    · exact ret _ _ _ _ _ [_, _] _ (by assumption) (news_sub (by assumption) (by intro y hy; simp only [List.mem_append, List.mem_cons, List.not_mem_nil, or_false] at hy; rcases hy with rfl | rfl | rfl | rfl | rfl | rfl | rfl | rfl | hy | rfl | rfl <;> first | k_mem | (repeat (first | exact hy | refine List.mem_cons_of_mem _ ?_)))) hp9 hd6 (.inr ⟨ho, _, has_ref (by rfl) (by rfl)⟩) (apart_lt hall (le2 (by omega) (by omega)))
    · exact ret _ _ _ _ _ [] _ (by assumption) (news_sub (by assumption) (by intro y hy; simp only [List.mem_append, List.mem_cons, List.not_mem_nil, or_false] at hy; rcases hy with rfl | rfl | rfl | rfl | rfl | rfl | rfl | rfl | hy <;> first | k_mem | (repeat (first | exact hy | refine List.mem_cons_of_mem _ ?_)))) hp9 hd6 (.inr ⟨ho, _, has_none⟩) apart_nil
    · exact ret _ _ _ _ _ [_, _] _ (by assumption) (news_sub (by assumption) (by intro y hy; simp only [List.mem_append, List.mem_cons, List.not_mem_nil, or_false] at hy; rcases hy with rfl | rfl | rfl | rfl | rfl | rfl | rfl | rfl | hy | rfl | rfl <;> first | k_mem | (repeat (first | exact hy | refine List.mem_cons_of_mem _ ?_)))) hp9 hd6 (.inr ⟨ho, _, has_name (by rfl)⟩) (apart_lt hall (le2 (by omega) (by omega)))
  · unfold AtEnd
    dsimp only [Hold]
    exact ret _ _ _ _ _ [] v (by assumption) (news_sub (by assumption) (by intro y hy; simp only [List.mem_append, List.mem_cons, List.not_mem_nil, or_false] at hy; rcases hy with rfl | rfl | rfl | rfl | rfl | rfl | rfl | rfl | hy <;> first | k_mem | (repeat (first | exact hy | refine List.mem_cons_of_mem _ ?_)))) hpen hdo (.inl ⟨rfl, rfl⟩) apart_nil
end

set_option maxRecDepth 100000
set_option maxHeartbeats 8000000

theorem Apart.sub {R news news' : List (Addr × Obj)} (h : Apart R news') (hs : ∀ y ∈ news, ∃ o, (y.1, o) ∈ news') : Apart R news := fun x hx y hy e => by
  obtain ⟨o, ho⟩ := hs y hy
  exact h x hx _ ho e
theorem Apart.app {R R' news : List (Addr × Obj)} (h : Apart R news) (h' : Apart R' news) : Apart (R ++ R') news := fun x hx => (List.mem_append.mp hx).elim (h x) (h' x)
theorem Has.more {R R' : List (Addr × Obj)} {v : Value} {d : D} (h : Has R v d) (hs : ∀ x ∈ R, x ∈ R') : Has R' v d := fun g hR => h g fun x hx => hR x (hs x hx)
theorem hturn {w : World} {mean : ExcName → Option Value} {mg mb : Str → Option Value} {h₀ : Heap} {L fa : Addr} {cd : Value} {m : Str → Option Value} {s : Shared} {E : Value → Shared → Prop} {P : Shared → Prop} {R : List (Addr × Obj)} {c5 c4 c3 c2 c1 : Obj} {d p q : Addr} {op oq od : Obj} {k : Str} {kt : Tok} {kvs : List (Str × Value)}
    (B : Below callerA h₀ [] h₀) (F : Fr h₀ L s.heap m) (X : (hd.heap_1 w.params).In h₀) (T : Top view (looseW view looseN) mean mg mb h₀)
    (N : News h₀ L s.heap ((L + 5, c5) :: (L + 4, c4) :: (L + 3, c3) :: (L + 2, c2) :: (L + 1, c1) :: (d, od) :: (p, op) :: (q, oq) :: R)) (d3 : c3.data = .cell (some (.ref d)))
    (hmp : m (Str.ofString "pen") = some (.ref p)) (hmk : m (Str.ofString "key") = some (.str k kt)) (hpen : IsPen q op oq) (hpq : @Ne Nat p q) (hdp : @Ne Nat d p) (hdq : @Ne Nat d q) (np1 : @Ne Nat (L + 1) p) (np2 : @Ne Nat (L + 2) p) (np3 : @Ne Nat (L + 3) p) (np4 : @Ne Nat (L + 4) p) (np5 : @Ne Nat (L + 5) p) (nq1 : @Ne Nat (L + 1) q) (nq2 : @Ne Nat (L + 2) q) (nq3 : @Ne Nat (L + 3) q) (nq4 : @Ne Nat (L + 4) q) (nq5 : @Ne Nat (L + 5) q) (nd1 : @Ne Nat (L + 1) d) (nd2 : @Ne Nat (L + 2) d) (nd3 : @Ne Nat (L + 3) d) (nd4 : @Ne Nat (L + 4) d) (nd5 : @Ne Nat (L + 5) d)
    (hRp : ∀ x ∈ R, x.1 ≠ p) (hRq : ∀ x ∈ R, x.1 ≠ q) (hRd : ∀ x ∈ R, x.1 ≠ d) (hle : kvs.length ≤ 60)
    (hdo : od.IsDictOf (SK w) kvs) (hkn : k ∉ kvs.map (·.1))
    (ret : ∀ h' tk' op' oq' od' R' v dd, Fr h₀ L h' m → News h₀ L h' ((L + 5, c5) :: (L + 4, c4) :: (L + 3, c3) :: (L + 2, c2) :: (L + 1, c1) :: (d, od') :: (p, op') :: (q, oq') :: (R ++ R')) → IsPen q op' oq' → od'.IsDictOf (SK w) (kvs ++ [(k, v)]) → Has R' v dd → (own k = false → ∃ p, dd = .p p) → Apart R' ((L + 5, c5) :: (L + 4, c4) :: (L + 3, c3) :: (L + 2, c2) :: (L + 1, c1) :: (d, od) :: (p, op) :: (q, oq) :: R) → P { s with heap := h', toks := tk' }) :
    wpAny (model PySem.Challenge.rw_nn0123_01.row.prog w) (callerA.deeper (envOfC (Str.ofString "law") (lawS w) L fa cd)) (execs (forB w) (envOfC (Str.ofString "law") (lawS w) L fa cd)) (AtEnd P) E s := by
  have e : forB w = ((forB w).drop 0).take 1 ++ (((forB w).drop 1).take 1 ++ ((forB w).drop 2).take 1) := rfl
  rw [e]
  refine execs_app (hb_a B F X T N d3 hmp hmk hpen hpq hdp hdq np1 np2 np3 np4 np5 nq1 nq2 nq3 nq4 nq5 nd1 nd2 nd3 nd4 nd5 hRp hRq hRd hle hdo hkn ?_)
  intro h1 tk1 op1 oq1 od1 R1 v1 pp F1 N1 hp1 hd1 hr1 ap1
  have hRp : ∀ x ∈ R ++ R1, x.1 ≠ p := List.forall_mem_append.mpr ⟨hRp, fun x hx => ap1 x hx (p, _) (by k_mem)⟩
  have hRq : ∀ x ∈ R ++ R1, x.1 ≠ q := List.forall_mem_append.mpr ⟨hRq, fun x hx => ap1 x hx (q, _) (by k_mem)⟩
  have hRd : ∀ x ∈ R ++ R1, x.1 ≠ d := List.forall_mem_append.mpr ⟨hRd, fun x hx => ap1 x hx (d, _) (by k_mem)⟩
  refine execs_app (hb_b B F1 X T N1 d3 hmp hmk hp1 hpq hdp hdq np1 np2 np3 np4 np5 nq1 nq2 nq3 nq4 nq5 nd1 nd2 nd3 nd4 nd5 hRp hRq hRd hle hd1 hkn ?_)
  intro h2 tk2 op2 oq2 od2 R2 v2 F2 N2 hp2 hd2 hr2 ap2
  have hRp : ∀ x ∈ (R ++ R1) ++ R2, x.1 ≠ p := List.forall_mem_append.mpr ⟨hRp, fun x hx => ap2 x hx (p, _) (by k_mem)⟩
  have hRq : ∀ x ∈ (R ++ R1) ++ R2, x.1 ≠ q := List.forall_mem_append.mpr ⟨hRq, fun x hx => ap2 x hx (q, _) (by k_mem)⟩
  have hRd : ∀ x ∈ (R ++ R1) ++ R2, x.1 ≠ d := List.forall_mem_append.mpr ⟨hRd, fun x hx => ap2 x hx (d, _) (by k_mem)⟩
  refine hb_c B F2 X T N2 d3 hmp hmk hp2 hpq hdp hdq np1 np2 np3 np4 np5 nq1 nq2 nq3 nq4 nq5 nd1 nd2 nd3 nd4 nd5 hRp hRq hRd hle hd2 hkn ?_
  intro h3 tk3 op3 oq3 od3 R3 v3 F3 N3 hp3 hd3 hr3 ap3
  have hh : ∃ dd, Has (R1 ++ (R2 ++ R3)) v3 dd ∧ (own k = false → ∃ p, dd = .p p) := by
    rcases hr3 with ⟨rfl, rfl⟩ | ⟨ho, dd, hdd⟩
    · rcases hr2 with ⟨rfl, rfl⟩ | ⟨ho, dd, hdd⟩
      · exact ⟨_, hr1.more (fun x hx => List.mem_append_left _ hx), fun _ => ⟨_, rfl⟩⟩
      · exact ⟨dd, hdd.more (fun x hx => List.mem_append_right _ (List.mem_append_left _ hx)), fun q => by rw [ho] at q; cases q⟩
    · exact ⟨dd, hdd.more (fun x hx => List.mem_append_right _ (List.mem_append_right _ hx)), fun q => by rw [ho] at q; cases q⟩
  obtain ⟨dd, hdd, hown⟩ := hh
  simp only [List.append_assoc] at N3
  refine ret _ _ _ _ _ (R1 ++ (R2 ++ R3)) v3 dd F3 N3 hp3 hd3 hdd hown (ap1.app (Apart.app (ap2.sub ?_) (ap3.sub ?_)))
  · (intro y hy; simp only [List.mem_cons] at hy; rcases hy with rfl | rfl | rfl | rfl | rfl | rfl | rfl | rfl | hy <;> first | exact ⟨_, by k_mem⟩ | exact ⟨y.2, by repeat (first | exact hy | refine List.mem_cons_of_mem _ ?_ | refine List.mem_append_left _ ?_)⟩)
  · (intro y hy; simp only [List.mem_cons] at hy; rcases hy with rfl | rfl | rfl | rfl | rfl | rfl | rfl | rfl | hy <;> first | exact ⟨_, by k_mem⟩ | exact ⟨y.2, by repeat (first | exact hy | refine List.mem_cons_of_mem _ ?_ | refine List.mem_append_left _ ?_)⟩)

noncomputable def OffL (L p q : Addr) (R : List (Addr × Obj)) : Prop := ∀ x ∈ R, x.1 ≠ p ∧ x.1 ≠ q ∧ x.1 ≠ L + 1 ∧ x.1 ≠ L + 2 ∧ x.1 ≠ L + 3 ∧ x.1 ≠ L + 4 ∧ x.1 ≠ L + 5
theorem OffL.app {L p q : Addr} {R R' : List (Addr × Obj)} (h : OffL L p q R) (h' : OffL L p q R') : OffL L p q (R ++ R') := fun x hx => (List.mem_append.mp hx).elim (h x) (h' x)
theorem strs_at {t : Tok} : ∀ {vs : List Value} {ss : List Str} {i : Nat} {v : Value}, StrsAre vs ss → vs[i]? = some v → ∃ k t, v = .str k t ∧ ss[i]? = some k
  | _, _, i, v, .nil, e => by simp at e
  | _, _, 0, v, .cons a b h, e => ⟨a, b, by simpa using e.symm, rfl⟩
  | _, _, i + 1, v, .cons a b h, e => by
    obtain ⟨x, t', h1, h2⟩ := strs_at (t := t) (i := i) h (by simpa using e)
    exact ⟨x, t', h1, by simpa using h2⟩
theorem take_new {α : Type} {l : List α} {i : Nat} {a : α} (hn : l.Nodup) (h : l[i]? = some a) : a ∉ l.take i := fun hm => by
  obtain ⟨j, hj⟩ := List.getElem?_of_mem hm
  rw [List.getElem?_take] at hj
  split at hj
  · rename_i hlt
    have hi : i < l.length := by
      rcases Nat.lt_or_ge i l.length with h' | h'
      · exact h'
      · rw [List.getElem?_eq_none h'] at h; cases h
    have := (List.getElem?_inj hi hn).mp (h.trans hj.symm)
    omega
  · cases hj
structure HdS where
  op : Obj
  oq : Obj
  od : Obj
  kvs : List (Str × Value)
  H : List (Str × D)
  R : List (Addr × Obj)
noncomputable def HdLed (L d p q : Addr) (c5 c4 c3 c2 c1 : Obj) (R : List (Addr × Obj)) (c : HdS) : List (Addr × Obj) := ((L + 5, c5) :: (L + 4, c4) :: (L + 3, c3) :: (L + 2, c2) :: (L + 1, c1) :: (d, c.od) :: (p, c.op) :: (q, c.oq) :: (c.R ++ R))
structure HdP (w : World) (L d p q : Addr) (ss : List Str) (R : List (Addr × Obj)) (i : Nat) (c : HdS) : Prop where
  pen : IsPen q c.op c.oq
  dic : c.od.IsDictOf (SK w) c.kvs
  has : HasKV c.R c.kvs c.H
  keys : c.H.map (·.1) = ss.take i
  owns : ∀ x ∈ c.H, own x.1 = false → ∃ p, x.2 = .p p
  offl : OffL L p q (c.R ++ R)
  offd : ∀ x ∈ c.R ++ R, x.1 ≠ d
  apart : Apart c.R R
theorem hloop {w : World} {mean : ExcName → Option Value} {mg mb : Str → Option Value} {h₀ : Heap} {L fa : Addr} {cd : Value} {m : Str → Option Value} {s : Shared} {E : Value → Shared → Prop} {R : List (Addr × Obj)} {c5 c4 c3 c2 c1 : Obj} {d p q : Addr} {op oq od : Obj} {Qf : Flow → Shared → Prop} {bd : List Stmt} {ss : List Str} {vs : List Value} {l : Addr} {n : Nat}
    (B : Below callerA h₀ [] h₀) (F : Fr h₀ L s.heap m) (X : (hd.heap_1 w.params).In h₀) (T : Top view (looseW view looseN) mean mg mb h₀)
    (N : News h₀ L s.heap ((L + 5, c5) :: (L + 4, c4) :: (L + 3, c3) :: (L + 2, c2) :: (L + 1, c1) :: (d, od) :: (p, op) :: (q, oq) :: R)) (d3 : c3.data = .cell (some (.ref d)))
    (hmp : m (Str.ofString "pen") = some (.ref p))  (hpen : IsPen q op oq) (hpq : @Ne Nat p q) (hdp : @Ne Nat d p) (hdq : @Ne Nat d q) (np1 : @Ne Nat (L + 1) p) (np2 : @Ne Nat (L + 2) p) (np3 : @Ne Nat (L + 3) p) (np4 : @Ne Nat (L + 4) p) (np5 : @Ne Nat (L + 5) p) (nq1 : @Ne Nat (L + 1) q) (nq2 : @Ne Nat (L + 2) q) (nq3 : @Ne Nat (L + 3) q) (nq4 : @Ne Nat (L + 4) q) (nq5 : @Ne Nat (L + 5) q) (nd1 : @Ne Nat (L + 1) d) (nd2 : @Ne Nat (L + 2) d) (nd3 : @Ne Nat (L + 3) d) (nd4 : @Ne Nat (L + 4) d) (nd5 : @Ne Nat (L + 5) d)
    (hoff : OffL L p q R) (hRd : ∀ x ∈ R, x.1 ≠ d) 
    (hl : s.heap.get? l = some (listOf vs.toArray n)) (hlL : @Ne Nat L l) (hlp : @Ne Nat l p) (hlq : @Ne Nat l q) (hld : @Ne Nat l d) (hS : StrsAre vs ss) (hn : ss.Nodup) (hv8 : vs.length ≤ 8) (hd0 : od.IsDictOf (SK w) []) (hbd : bd = forB w)
    (ret : ∀ (c : HdS) h' tk' m', Fr h₀ L h' m' → News h₀ L h' ((L + 5, c5) :: (L + 4, c4) :: (L + 3, c3) :: (L + 2, c2) :: (L + 1, c1) :: (d, c.od) :: (p, c.op) :: (q, c.oq) :: (c.R ++ R)) → m' (Str.ofString "pen") = some (.ref p) → HdP w L d p q ss R vs.length c → Qf .next { s with heap := h', toks := tk' }) :
    wpAny (model PySem.Challenge.rw_nn0123_01.row.prog w) (callerA.deeper (envOfC (Str.ofString "law") (lawS w) L fa cd)) (pyIter (.ref l)) (fun it s₂ => LoopAtV PySem.Challenge.rw_nn0123_01.row.prog w (callerA.deeper (envOfC (Str.ofString "law") (lawS w) L fa cd)) h₀ (envOfC (Str.ofString "law") (lawS w) L fa cd) (Str.ofString "key") bd Qf E it s₂) E s := by
  subst hbd
  refine grow_list (HdLed L d p q c5 c4 c3 c2 c1 R) (fun _ => []) [] (HdP w L d p q ss R) ⟨op, oq, od, [], [], []⟩ (by rfl) hl hlL F N (fun p hp => nomatch hp) ⟨hpen, hd0, fun _ _ => trivial, rfl, List.forall_mem_nil _, hoff, hRd, apart_nil⟩ ?_ ?_
  · intro c i v u I h tk own' hv hnI hown hal hP F2 N2
    obtain ⟨op2, oq2, od2, kvs2, H2, R2⟩ := c
    obtain ⟨oI, hoI⟩ := hal
    obtain ⟨hpen, hdic, hhas, hkeys, howns, hoffl, hoffd, hapt⟩ := hP
    dsimp only at hpen hdic hhas hkeys howns hoffl hoffd
    obtain ⟨k, t, rfl, hk⟩ := strs_at (t := 0) hS hv
    have hR2 : ∀ y ∈ R2, h.get? y.1 = some y.2 := fun y hy => (N2 y (by simp [HdLed, hy])).1
    have hkk : kvs2.map (·.1) = ss.take i := by rw [(hhas h hR2).keys, hkeys]
    have hkn : k ∉ kvs2.map (·.1) := by rw [hkk]; exact take_new hn hk
    have hlen : kvs2.length ≤ 8 := by
      have h1 := congrArg List.length hkk
      have h2 := hS.length
      rw [List.length_map, List.length_take] at h1
      omega
    have hI : ∀ z : Addr × Obj, z ∈ HdLed L d p q c5 c4 c3 c2 c1 R ⟨op2, oq2, od2, kvs2, H2, R2⟩ → I ≠ z.1 := fun z hz => Ne.symm (hnI z hz)
    have hap : ∀ x ∈ (R2 ++ R) ++ own', x.1 ≠ p := List.forall_mem_append.mpr ⟨fun x hx => (hoffl x hx).1, fun x hx => (hown x hx).elim (fun e => by rw [e]; exact hI (p, op2) (by unfold HdLed; k_mem)) fun e => by rw [e]; exact hlp⟩
    have haq : ∀ x ∈ (R2 ++ R) ++ own', x.1 ≠ q := List.forall_mem_append.mpr ⟨fun x hx => (hoffl x hx).2.1, fun x hx => (hown x hx).elim (fun e => by rw [e]; exact hI (q, oq2) (by unfold HdLed; k_mem)) fun e => by rw [e]; exact hlq⟩
    have had : ∀ x ∈ (R2 ++ R) ++ own', x.1 ≠ d := List.forall_mem_append.mpr ⟨hoffd, fun x hx => (hown x hx).elim (fun e => by rw [e]; exact hI (d, od2) (by unfold HdLed; k_mem)) fun e => by rw [e]; exact hld⟩
    have hmp2 : (fun y => if y = Str.ofString "key" then some (.str k t) else kstB (fun z => if ([] : List Str).contains z then u z else m z) [] y) (Str.ofString "pen") = some (.ref p) := hmp
    refine wpAny_mono (hturn (P := fun s' => GrowPost h₀ L (GrowS (HdLed L d p q c5 c4 c3 c2 c1 R) (fun _ => []) (Str.ofString "key") [] m (HdP w L d p q ss R (i + 1))) own' I { s with heap := h, toks := tk } Qf .next s') B F2 X T N2 d3 hmp2 rfl hpen hpq hdp hdq np1 np2 np3 np4 np5 nq1 nq2 nq3 nq4 nq5 nd1 nd2 nd3 nd4 nd5 hap haq had (by omega) hdic hkn ?_) (fun f s' q => by cases f <;> first | exact q | exact absurd q (by unfold AtEnd; exact fun z => z)) fun _ _ z => z
    intro h3 tk3 op3 oq3 od3 R3 v3 dd F3 N3 hp3 hd3 hr3 hown3 ap3
    refine grow_end ⟨op3, oq3, od3, kvs2 ++ [(k, v3)], H2 ++ [(k, dd)], R2 ++ R3⟩ F3 N3 ?_ ?_ ?_ (fun p hp => nomatch hp) (fun z hz _ _ => by simp [kstB, hz]) ?_
    · intro y hy
      simp only [HdLed, List.mem_cons, List.mem_append] at hy ⊢
      rcases hy with h | h | h | h | h | h | h | h | (h | h) | h <;> simp [h]
    · intro y hy
      simp [hy]
    · intro y hy
      simp only [HdLed, List.mem_cons, List.mem_append] at hy
      rcases hy with rfl | rfl | rfl | rfl | rfl | rfl | rfl | rfl | (h | h) | h
      · exact hnI (L + 5, c5) (by unfold HdLed; k_mem)
      · exact hnI (L + 4, c4) (by unfold HdLed; k_mem)
      · exact hnI (L + 3, c3) (by unfold HdLed; k_mem)
      · exact hnI (L + 2, c2) (by unfold HdLed; k_mem)
      · exact hnI (L + 1, c1) (by unfold HdLed; k_mem)
      · exact hnI (d, od2) (by unfold HdLed; k_mem)
      · exact hnI (p, op2) (by unfold HdLed; k_mem)
      · exact hnI (q, oq2) (by unfold HdLed; k_mem)
      · exact hnI y (by simp [HdLed, h])
      · exact ap3 y h (I, oI) (by simp [hoI])
      · exact hnI y (by simp [HdLed, h])
    · have ho3 : OffL L p q R3 := fun x hx => ⟨ap3 x hx (p, op2) (by k_mem), ap3 x hx (q, oq2) (by k_mem), ap3 x hx (L + 1, c1) (by k_mem), ap3 x hx (L + 2, c2) (by k_mem), ap3 x hx (L + 3, c3) (by k_mem), ap3 x hx (L + 4, c4) (by k_mem), ap3 x hx (L + 5, c5) (by k_mem)⟩
      have hd3' : ∀ x ∈ R3, x.1 ≠ d := fun x hx => ap3 x hx (d, od2) (by k_mem)
      refine ⟨hp3, hd3, fun h' hh => KV.snoc (hr3 h' fun x hx => hh x (List.mem_append_right _ hx)) (hhas h' fun x hx => hh x (List.mem_append_left _ hx)), ?_, ?_, ?_, ?_, Apart.app hapt (ap3.sub fun y hy => ⟨y.2, by simp [hy]⟩)⟩
      · show (H2 ++ [(k, dd)]).map (·.1) = ss.take (i + 1)
        rw [List.map_append, hkeys, take_snoc hk]; rfl
      · exact List.forall_mem_append.mpr ⟨howns, fun x hx => by rw [List.mem_singleton.mp hx]; exact hown3⟩
      · exact OffL.app (OffL.app (fun x hx => hoffl x (List.mem_append_left _ hx)) ho3) fun x hx => hoffl x (List.mem_append_right _ hx)
      · exact List.forall_mem_append.mpr ⟨List.forall_mem_append.mpr ⟨fun x hx => hoffd x (List.mem_append_left _ hx), hd3'⟩, fun x hx => hoffd x (List.mem_append_right _ hx)⟩
  · intro c u h tk hP F2 N2
    exact ret c _ _ _ F2 N2 hmp hP
section
local macro_rules | `(tactic| k_all) => `(tactic| with_reducible assumption)
local macro_rules | `(tactic| walk_at "pyIter ref") => `(tactic| ((with_reducible show wpAny _ _ (pyIter (Value.ref _)) (fun it s₂ => LoopAtV _ _ _ _ _ _ _ _ _ it s₂) _ _); refine Hold.out ?_))
local macro_rules | `(tactic| walk_at "exec For Name Call cons nil") => `(tactic| (k_here; (rename Fr _ _ _ _ => lF'); (with_unfolding_all refine' For_invVF lF' ?k1 ?k2 ?_; (case k1 => exact rfl); (case k2 => exact rfl); k_whole)))
local macro_rules | `(tactic| walk_at "nothing at all") => `(tactic| fail)
local macro_rules | `(tactic| walk_at "nothing at all") => `(tactic| fail)
local macro_rules | `(tactic| walk_at "nothing at all") => `(tactic| fail)
theorem gh_ok {w : World} {mean : ExcName → Option Value} {mg mb : Str → Option Value} {h₀ : Heap} {L fa : Addr} {cd : Value} {m : Str → Option Value} {s : Shared} {E : Value → Shared → Prop} {P : Shared → Prop} {R : List (Addr × Obj)} {c5 c4 c3 c2 c1 : Obj} {p q : Addr} {op oq : Obj}
    (B : Below callerA h₀ [] h₀) (F : Fr h₀ L s.heap m) (X : (hd.heap_1 w.params).In h₀) (T : Top view (looseW view looseN) mean mg mb h₀)
    (N : News h₀ L s.heap ((L + 5, c5) :: (L + 4, c4) :: (L + 3, c3) :: (L + 2, c2) :: (L + 1, c1) :: (p, op) :: (q, oq) :: R)) {v3 : Option Value} (d3 : c3.data = .cell v3)
    (hmp : m (Str.ofString "pen") = some (.ref p))  (hpen : IsPen q op oq) (hpq : @Ne Nat p q)  (np1 : @Ne Nat (L + 1) p) (np2 : @Ne Nat (L + 2) p) (np3 : @Ne Nat (L + 3) p) (np4 : @Ne Nat (L + 4) p) (np5 : @Ne Nat (L + 5) p) (nq1 : @Ne Nat (L + 1) q) (nq2 : @Ne Nat (L + 2) q) (nq3 : @Ne Nat (L + 3) q) (nq4 : @Ne Nat (L + 4) q) (nq5 : @Ne Nat (L + 5) q)
    (hoff : OffL L p q R) 
    (ret : ∀ (c : HdS) (d : Addr) (ss : List Str) h' tk' m' c3', Fr h₀ L h' m' → News h₀ L h' ((L + 5, c5) :: (L + 4, c4) :: (L + 3, c3') :: (L + 2, c2) :: (L + 1, c1) :: (d, c.od) :: (p, c.op) :: (q, c.oq) :: (c.R ++ R)) → m' (Str.ofString "pen") = some (.ref p) → c3'.data = .cell (some (.ref d)) → (d == sysModules) = false → ss.length ≤ 8 → HdP w L d p q ss R ss.length c → OffL L p q [(d, c.od)] → P { s with heap := h', toks := tk' }) :
    wpAny (model PySem.Challenge.rw_nn0123_01.row.prog w) (callerA.deeper (envOfC (Str.ofString "law") (lawS w) L fa cd)) (execs (((turnB w).drop 0).take 2) (envOfC (Str.ofString "law") (lawS w) L fa cd)) (AtEnd P) (fun _ _ => False) s := by
  revert X; k_fill; intro X
  have e1 : turnB w = [_, _, _, _, _, _, _, _, _, _, _, _, _, _, _, _] := rfl
  have e2 : lawS w = ⟨_, _, _, _, _⟩ := rfl
  rw [e1, e2]
  dsimp only [List.drop, List.take]
  clear e1 e2
  (try k_fold)
  obtain ⟨m0, rfl⟩ : ∃ m0 : Str → Option Value, m = fun y => if y = Str.ofString "pen" then some (.ref p) else m0 y := ⟨m, by
    funext y
    by_cases hy : y = Str.ofString "pen"
    · rw [if_pos hy, hy, hmp]
    · rw [if_neg hy]⟩
  clear hmp
  have hRp : ∀ x ∈ R, x.1 ≠ p := fun x hx => (hoff x hx).1
  have hRq : ∀ x ∈ R, x.1 ≠ q := fun x hx => (hoff x hx).2.1
  have hR3 : ∀ x ∈ R, x.1 ≠ L + 3 := fun x hx => (hoff x hx).2.2.2.2.1
  (k_steps; repeat' ((refine Hold.mk ?_; first | ((with_reducible show wpAny _ _ (call (Value.ref 434) [_, _]) _ _ _); (refine' pick_ok ?B ?F ?X ?T ?hk ?N ?U1 ?U2 ?hp ?hpq ?hl ?hlp ?hne ?hle ?hd ?hu ?_; (case B => k_asm); (case F => k_asm); (case X => k_asm); (case T => k_asm); (case hk => first | exact rfl | assumption); (case N => k_asm); (case U1 => k_updF); (case hp => assumption); (case hpq => assumption); (case U2 => (intro zo8; (try dsimp only); k_updF)); (case hl => exact (news_here (by assumption) (by k_mem))); (case hlp => exact off2 (by k_ne) (by k_ne)); (case hne => exact Nat.le_of_ble_eq_true rfl); (case hle => exact Nat.le_of_ble_eq_true rfl); (case hd => ktr_room); (case hu => ktr_units)); intro zv9 zh9 ztk9 zop9 zoq9 zF9 zN9 zhp9 zhb9 zhm9; (try dsimp only at zN9); refine Hold.out ?_)); k_steps))
  unfold Hold
  rename _ ∈ [_, _, _, _] => hm9
  rename News h₀ _ _ _ => N9
  rename Fr h₀ _ _ _ => F9
  rename IsPen q _ _ => hp9
  rename Obj.IsDictOf (PySem.strKind _ _) _ _ => hd0
  rename (_ == sysModules) = false => lo0
  rename Obj.data _ = Data.cell (some (Value.ref _)) => d3'
  obtain ⟨g1, g2, g3, g4, g5, g6, g7, hlt⟩ : _ ∧ _ ∧ _ ∧ _ ∧ _ ∧ _ ∧ _ ∧ AllLt _ R := by assumption
  simp only [List.mem_cons, List.not_mem_nil, or_false] at hm9
  rcases hm9 with rfl | rfl | rfl | rfl
  all_goals
    refine hloop B F9 X T (news_sub N9 (by intro y hy; simp only [List.mem_cons] at hy; rcases hy with rfl | rfl | rfl | rfl | rfl | rfl | rfl | rfl | hy <;> first | k_mem | (repeat (first | exact hy | refine List.mem_cons_of_mem _ ?_)))) d3' rfl hp9 hpq (by k_ne) (by k_ne) np1 np2 np3 np4 np5 nq1 nq2 nq3 nq4 nq5 (by k_ne) (by k_ne) (by k_ne) (by k_ne) (by k_ne) hoff (fun x hx => Nat.ne_of_lt (allLt_mem hlt x hx)) (news_here (p := (_, listOf _ _)) N9 (by k_mem)) (by k_ne) (by k_ne) (by k_ne) (by k_ne) (.cons _ _ (.cons _ _ (.cons _ _ (.cons _ _ .nil)))) (by decide +kernel) (Nat.le_of_ble_eq_true rfl) hd0 (by with_unfolding_all rfl) ?_
    intro c h7 tk7 m7 F7 N7 hm7 hP7
    (k_steps; repeat' ((refine Hold.mk ?_; first | ((with_reducible show wpAny _ _ (call (Value.ref 434) [_, _]) _ _ _); (refine' pick_ok ?B ?F ?X ?T ?hk ?N ?U1 ?U2 ?hp ?hpq ?hl ?hlp ?hne ?hle ?hd ?hu ?_; (case B => k_asm); (case F => k_asm); (case X => k_asm); (case T => k_asm); (case hk => first | exact rfl | assumption); (case N => k_asm); (case U1 => k_updF); (case hp => assumption); (case hpq => assumption); (case U2 => (intro zo8; (try dsimp only); k_updF)); (case hl => exact (news_here (by assumption) (by k_mem))); (case hlp => exact off2 (by k_ne) (by k_ne)); (case hne => exact Nat.le_of_ble_eq_true rfl); (case hle => exact Nat.le_of_ble_eq_true rfl); (case hd => ktr_room); (case hu => ktr_units)); intro zv9 zh9 ztk9 zop9 zoq9 zF9 zN9 zhp9 zhb9 zhm9; (try dsimp only at zN9); refine Hold.out ?_)); k_steps))
    unfold AtEnd
    dsimp only [Hold]
    refine ret c _ _ _ _ _ _ F7 N7 hm7 d3' lo0 ?_ hP7 ?_
    · decide
    · intro x hx
      rw [List.mem_singleton.mp hx]
      exact ⟨by k_ne, by k_ne, by k_ne, by k_ne, by k_ne, by k_ne, by k_ne⟩
end

set_option maxRecDepth 100000
set_option maxHeartbeats 8000000

theorem dict_N {prog : Program} {w : World} {K : Type} [DecidableEq K] {knd : KeyKind prog w K} {A : Around} {E Q : Value → Shared → Prop} {s : Shared} {h₀ : Heap} {L l : Addr} {m : Str → Option Value} {news : List (Addr × Obj)} {vs : List Value} {n : Nat} {kvs : List (K × Value)} (hh : A.handled = none) (F : Fr h₀ L s.heap m) (N : News h₀ L s.heap news) (hbig : h₀.NoLimit)
    (hm : (l, listOf vs.toArray n) ∈ news) (hp : PairsAt knd s.heap vs kvs) (hn : (kvs.map (·.1)).Nodup) (hsz : kvs.length ≤ 64)
    (h : ∀ (e : Addr) oe h' tk', Fr h₀ L h' m → News h₀ L h' ((e, oe) :: news) → (∀ p ∈ news, @LT.lt Nat _ p.1 e) → (e == sysModules) = false → oe.IsDictOf knd kvs → Q (.ref e) { s with heap := h', toks := tk' }) :
    wpAny (model prog w) A (call (.type "dict") [.ref l]) Q E s := by
  refine dict_pairs hh (N _ hm).1 hp hn hsz fun h' tk hd hk => ?_
  obtain ⟨oe, hoe, hde⟩ := Heap.dictOf_iff.mp hd
  refine h _ oe h' tk (F.keeps hk) (fun p hp => ?_) (fun p hp => Heap.lt_size (N p hp).1) (F.notModules (modules_low hbig)) hde
  rcases List.mem_cons.mp hp with rfl | hp
  · exact news1 F hoe (Heap.get?_none_of_le (Nat.le_refl _)) _ List.mem_cons_self
  · exact News.grown N hk p hp
theorem PairsAt.snoc {prog : Program} {w : World} {K : Type} [DecidableEq K] {knd : KeyKind prog w K} {h : Heap} {v : Value} {p : K × Value} (hv : ∃ a key n, v = .ref a ∧ h.get? a = some { cls := .type "tuple", data := .seq #[key, p.2] n } ∧ knd.is p.1 key = true) : ∀ {vs : List Value} {ps : List (K × Value)}, PairsAt knd h vs ps → PairsAt knd h (vs ++ [v]) (ps ++ [p])
  | [], [], _ => ⟨hv, trivial⟩
  | _ :: _, _ :: _, q => ⟨q.1, PairsAt.snoc hv q.2⟩
noncomputable def PairsR (prog : Program) (w : World) {K : Type} [DecidableEq K] (knd : KeyKind prog w K) (R : List (Addr × Obj)) (vs : List Value) (ps : List (K × Value)) : Prop := ∀ h : Heap, (∀ x ∈ R, h.get? x.1 = some x.2) → PairsAt knd h vs ps
theorem KV.get {K : Type} {R : Value → D → Prop} {l : List (K × Value)} {r : List (K × D)} {i : Nat} {k : K} {y : Value} (q : KV R l r) (e : l[i]? = some (k, y)) : ∃ d, r[i]? = some (k, d) ∧ R y d := by
  induction l generalizing r i with
  | nil => rw [List.getElem?_nil] at e; exact absurd e (Option.some_ne_none _).symm
  | cons a l ih =>
    cases r with
    | nil => exact q.elim
    | cons b r =>
      cases i with
      | zero =>
        rw [List.getElem?_cons_zero] at e
        cases e
        exact ⟨b.2, by rw [List.getElem?_cons_zero]; exact congrArg some (Prod.ext q.1.symm rfl), q.2.1⟩
      | succ i =>
        rw [List.getElem?_cons_succ] at e
        rw [List.getElem?_cons_succ]
        exact ih q.2.2 e
theorem HasKV.get {K : Type} {R : List (Addr × Obj)} {kvs : List (K × Value)} {H : List (K × D)} {i : Nat} {k : K} {y : Value} {h : Heap} (hk : HasKV R kvs H) (hR : ∀ x ∈ R, h.get? x.1 = some x.2) (e : kvs[i]? = some (k, y)) : ∃ d, H[i]? = some (k, d) ∧ Has R y d := by
  obtain ⟨d, h1, h2⟩ := (hk h hR).get e
  refine ⟨d, h1, fun g hg => ?_⟩
  obtain ⟨d', h3, h4⟩ := (hk g hg).get e
  rw [h1] at h3
  cases h3
  exact h4
noncomputable abbrev hd1 {h₀ h : Heap} {L : Addr} {x : Addr × Obj} {l : List (Addr × Obj)} (_ : News h₀ L h (x :: l)) : Addr × Obj := x
section
local macro_rules | `(tactic| k_all) => `(tactic| with_reducible assumption)
local macro_rules | `(tactic| walk_at "eval ListComp") => `(tactic| refine Hold.out ?_)
local macro_rules | `(tactic| walk_at "call type:dict") => `(tactic| refine Hold.out ?_)
local macro_rules | `(tactic| walk_at "subscriptTail") => `(tactic| refine Hold.out ?_)
local macro_rules | `(tactic| walk_at "compareOp NotIn") => `(tactic| refine Hold.out ?_)
local macro_rules | `(tactic| walk_at "nothing at all") => `(tactic| fail)
local macro_rules | `(tactic| walk_at "nothing at all") => `(tactic| fail)
theorem gheld_ok {w : World} {mean : ExcName → Option Value} {mg mb : Str → Option Value} {h₀ : Heap} {L fa : Addr} {cd : Value} {m : Str → Option Value} {s : Shared} {E : Value → Shared → Prop} {P : Shared → Prop} {R : List (Addr × Obj)} {c5 c4 c3 c2 c1 : Obj} {d : Addr} {od : Obj} {kvs : List (Str × Value)} {H : List (Str × D)} {v4 : Option Value}
    (B : Below callerA h₀ [] h₀) (F : Fr h₀ L s.heap m) (X : (hd.heap_1 w.params).In h₀) (T : Top view (looseW view looseN) mean mg mb h₀)
    (N : News h₀ L s.heap ((L + 5, c5) :: (L + 4, c4) :: (L + 3, c3) :: (L + 2, c2) :: (L + 1, c1) :: R)) (d3 : c3.data = .cell (some (.ref d))) (d4 : c4.data = .cell v4) (hm : (d, od) ∈ R) (hdo : od.IsDictOf (SK w) kvs) (lo : (d == sysModules) = false) (hhas : HasKV R kvs H) (hle : kvs.length ≤ 8) (hR4 : ∀ x ∈ R, x.1 ≠ L + 4)
    (ret : ∀ h' tk' m' c4' (e : Addr) oe kvs' H', Fr h₀ L h' m' → News h₀ L h' ((L + 5, c5) :: (L + 4, c4') :: (L + 3, c3) :: (L + 2, c2) :: (L + 1, c1) :: (e, oe) :: R) → m' (Str.ofString "pen") = m (Str.ofString "pen") → c4'.data = .cell (some (.ref e)) → (e == sysModules) = false → oe.IsDictOf (SK w) kvs' → HasKV R kvs' H' → (∀ x ∈ H', x ∈ H) → kvs'.length ≤ 8 → (∀ x ∈ ((L + 5, c5) :: (L + 4, c4) :: (L + 3, c3) :: (L + 2, c2) :: (L + 1, c1) :: R), @LT.lt Nat _ x.1 e) → P { s with heap := h', toks := tk' }) :
    wpAny (model PySem.Challenge.rw_nn0123_01.row.prog w) (callerA.deeper (envOfC (Str.ofString "law") (lawS w) L fa cd)) (execs (((turnB w).drop 2).take 1) (envOfC (Str.ofString "law") (lawS w) L fa cd)) (AtEnd P) E s := by
  revert X; k_fill; intro X
  have e1 : turnB w = [_, _, _, _, _, _, _, _, _, _, _, _, _, _, _, _] := rfl
  have e2 : lawS w = ⟨_, _, _, _, _⟩ := rfl
  rw [e1, e2]
  dsimp only [List.drop, List.take]
  clear e1 e2
  (try k_fold)
  k_steps
  unfold Hold
  refine ListComp_DT (SK w) F (by with_unfolding_all rfl) (by decide) (by rfl) (by decide) (by rfl) ?_
  k_steps
  rename Fr h₀ _ _ _ => Fz
  rename News h₀ _ _ _ => Nz
  have hnd : (kvs.map (·.1)).Nodup := (by obtain ⟨_, _, _, _, _, _, hn⟩ := hdo; exact hn)
  refine ⟨d, od, kvs, _, rfl, by rfl, Fz, Nz, (by repeat (first | exact hm | refine List.mem_cons_of_mem _ ?_)), hdo, lo, by rw [sizeLine_eq]; omega, fun s₂ ⟨g', e⟩ => e ▸ ?_⟩
  refine comp_allNT (fun i ys nw => Hold (∃ Rt kvs' H', nw = ((L + 5, c5) :: (L + 4, c4) :: (L + 3, c3) :: (L + 2, c2) :: (L + 1, c1) :: (Rt ++ R)) ∧ PairsR PySem.Challenge.rw_nn0123_01.row.prog w (SK w) Rt ys kvs' ∧ HasKV R kvs' H' ∧ (∀ x ∈ H', x ∈ H) ∧ (kvs'.map (·.1)).Sublist ((kvs.take i).map (·.1)) ∧ (∀ x ∈ Rt, x.1 ≠ L + 4))) ?_ ⟨[], [], [], rfl, fun _ _ => trivial, fun _ _ => trivial, List.forall_mem_nil _, List.nil_sublist _, List.forall_mem_nil _⟩ ?_
  · intro i v ys nw I oI C oC D m₂ h tk E' hi hv hinv hC hx F2 N2 off ne
    obtain ⟨k, y, hky, hkv⟩ := hv
    obtain ⟨tv, rfl⟩ := str_key hkv
    obtain ⟨Rt, kvs', H', rfl, hp, hh, hsub, hsl, hof⟩ := hinv
    have off0 := off
    simp only [Off3] at off
    have hmR : ∀ x ∈ R, x ∈ ((L + 5, c5) :: (L + 4, c4) :: (L + 3, c3) :: (L + 2, c2) :: (L + 1, c1) :: (Rt ++ R)) := fun x hx => by simp [hx]
    have hv1 := valueAt_of_get hnd hky
    obtain ⟨dd, hdd1, hdd2⟩ := hhas.get (fun x hx => (N2 x (by simp [hx])).1) hky
    have htk := take_snoc hky
    k_steps
    unfold Hold
    rename Fr h₀ _ _ _ => Fz
    rename News h₀ _ _ _ => Nz
    refine dsub (knd := SK w) (g := Shared.heap _) (fun b o e => e) (Heap.dictOf_iff.mpr ⟨od, (Nz (d, od) (by repeat (first | exact hm | exact hx | refine List.mem_cons_of_mem _ ?_ | refine List.mem_append_right _ ?_))).1, hdo⟩) (strKind_is _ _ _ _) hv1 ?_
    k_steps
    unfold Hold
    rename Fr h₀ _ _ _ => Fz
    rename News h₀ _ _ _ => Nz
    refine SeqAt.notIn_tupleAt (fun _ => dd.isX (Str.ofString "x")) ⟨_, news_here Nz (by k_mem), rfl, _, rfl⟩ (fun z hz => ?_) ?_
    · rw [List.mem_toArray] at hz
      rw [List.mem_singleton.mp hz]
      exact EqAt.str_D _ _ (fun a o e => Fz.keep a o (X a o e)) (hdd2 _ fun x hx => (Nz x (by repeat (first | exact hm | exact hx | refine List.mem_cons_of_mem _ ?_ | refine List.mem_append_right _ ?_))).1) (by ktr_units)
    simp only [List.any_toArray, List.any_cons, List.any_nil, Bool.or_false]
    cases hb : dd.isX (Str.ofString "x") with
    | true =>
      k_steps
      rename Fr h₀ _ _ _ => Fz
      rename News h₀ _ _ _ => Nz
      refine LCg.CompEnd.intro Fz Nz ((L + 5, c5) :: (L + 4, c4) :: (L + 3, c3) :: (L + 2, c2) :: (L + 1, c1) :: (Rt ++ R)) (fun p hp => List.mem_cons_of_mem _ hp) off0 (by repeat (first | exact hm | exact hx | refine List.mem_cons_of_mem _ ?_ | refine List.mem_append_right _ ?_)) ⟨Rt, kvs', H', rfl, hp, hh, hsub, ?_, hof⟩
      rw [htk, List.map_append]
      exact hsl.trans (List.sublist_append_left _ _)
    | false =>
      k_steps
      unfold Hold
      rename Fr h₀ _ _ _ => Fz
      rename News h₀ _ _ _ => Nz
      refine dsub (knd := SK w) (g := Shared.heap _) (fun b o e => e) (Heap.dictOf_iff.mpr ⟨od, (Nz (d, od) (by repeat (first | exact hm | exact hx | refine List.mem_cons_of_mem _ ?_ | refine List.mem_append_right _ ?_))).1, hdo⟩) (strKind_is _ _ _ _) hv1 ?_
      k_steps
      rename Fr h₀ _ _ _ => Fz
      rename News h₀ _ _ _ => Nz
      have ht1 : @Ne Nat (hd1 Nz).1 I ∧ @Ne Nat (hd1 Nz).1 C ∧ @Ne Nat (hd1 Nz).1 D := by dsimp only [hd1]; exact ⟨by k_ne, by k_ne, by k_ne⟩
      have ht2 : @Ne Nat (hd1 Nz).1 (L + 4) := by dsimp only [hd1]; k_ne
      refine LCg.CompEnd.intro Fz Nz ((L + 5, c5) :: (L + 4, c4) :: (L + 3, c3) :: (L + 2, c2) :: (L + 1, c1) :: hd1 Nz :: (Rt ++ R)) (by intro y hy; simp only [List.mem_cons] at hy; rcases hy with rfl | rfl | rfl | rfl | rfl | rfl | rfl | rfl | rfl | hx <;> first | k_mem | (repeat (first | exact hx | refine List.mem_cons_of_mem _ ?_))) (Off3.of fun x hx => ?_) (by repeat (first | exact hm | exact hx | refine List.mem_cons_of_mem _ ?_ | refine List.mem_append_right _ ?_)) ⟨hd1 Nz :: Rt, kvs' ++ [(k, y)], H' ++ [(k, dd)], rfl, fun h hR => PairsAt.snoc ⟨_, _, _, rfl, hR _ List.mem_cons_self, strKind_is _ _ _ _⟩ (hp h fun x hx => hR x (List.mem_cons_of_mem _ hx)), fun h hR => KV.snoc (hdd2 h hR) (hh h hR), List.forall_mem_append.mpr ⟨hsub, fun x hx => by rw [List.mem_singleton.mp hx]; exact List.mem_of_getElem? hdd1⟩, ?_, List.forall_mem_cons.mpr ⟨ht2, hof⟩⟩
      · have hx' : x = hd1 Nz ∨ x ∈ ((L + 5, c5) :: (L + 4, c4) :: (L + 3, c3) :: (L + 2, c2) :: (L + 1, c1) :: (Rt ++ R)) := by
          simp only [List.mem_cons] at hx ⊢
          rcases hx with h | h | h | h | h | h | h <;> first | exact .inl h | (refine .inr ?_; repeat (first | exact h | exact .inl h | refine .inr ?_))
        rcases hx' with rfl | hx'
        · exact ht1
        · exact Off3.mem off0 x hx'
      · rw [htk, List.map_append, List.map_append]
        exact hsl.append (List.Sublist.refl _)
  · intro ys nw hinv
    obtain ⟨Rt, kvs', H', rfl, hp, hh, hsub, hsl, hof⟩ := hinv
    rw [List.take_length] at hsl
    have hlen' : kvs'.length ≤ 8 := by
      have := hsl.length_le
      rw [List.length_map, List.length_map] at this
      omega
    have hR4' : ∀ x ∈ Rt ++ R, x.1 ≠ L + 4 := List.forall_mem_append.mpr ⟨hof, hR4⟩
    k_steps
    unfold Hold
    rename Fr h₀ _ _ _ => Fz
    rename News h₀ _ _ _ => Nz
    refine dict_N (knd := SK w) (by rfl) Fz Nz T.nolimit List.mem_cons_self (hp _ fun x hx => (Nz x (by repeat (first | exact hx | refine List.mem_cons_of_mem _ ?_ | refine List.mem_append_left _ ?_))).1) (hsl.nodup hnd) (by omega) ?_
    intro e oe h7 tk7 F7 N7 hl7 lo7 hd7
    have he4 : @Ne Nat e (L + 4) := Nat.ne_of_gt (hl7 (L + 4, c4) (by k_mem))
    k_steps
    unfold AtEnd
    dsimp only [Hold]
    refine ret _ _ _ _ e oe kvs' H' (by assumption) (news_sub (by assumption) ?_) (by rfl) (by assumption) lo7 hd7 hh hsub hlen' (fun x hx => hl7 x ?_)
    · intro y hy
      simp only [List.mem_cons] at hy
      rcases hy with rfl | rfl | rfl | rfl | rfl | rfl | hx <;> first | k_mem | (repeat (first | exact hm | exact hx | refine List.mem_cons_of_mem _ ?_ | refine List.mem_append_right _ ?_))
    · simp only [List.mem_cons] at hx
      rcases hx with rfl | rfl | rfl | rfl | rfl | hx <;> first | k_mem | (repeat (first | exact hm | exact hx | refine List.mem_cons_of_mem _ ?_ | refine List.mem_append_right _ ?_))
end

set_option maxRecDepth 100000
set_option maxHeartbeats 8000000

noncomputable def RowsIn (R : List (Addr × Obj)) : List (Int × Value) → List (Int × Value) → Prop
  | [], [] => True
  | p :: l, r :: l' => p.1 = r.1 ∧ (∃ a t n, r.2 = .ref a ∧ (a, ({ cls := .type "tuple", data := .seq #[.int 0 t, p.2] n } : Obj)) ∈ R) ∧ RowsIn R l l'
  | _, _ => False
theorem RowsIn.more {R R' : List (Addr × Obj)} (hs : ∀ x ∈ R, x ∈ R') : ∀ {l l' : List (Int × Value)}, RowsIn R l l' → RowsIn R' l l'
  | [], [], _ => trivial
  | _ :: _, _ :: _, ⟨h1, ⟨a, t, n, h2, h3⟩, h4⟩ => ⟨h1, ⟨a, t, n, h2, hs _ h3⟩, RowsIn.more hs h4⟩
theorem RowsIn.keys {R : List (Addr × Obj)} : ∀ {l l' : List (Int × Value)}, RowsIn R l l' → l.map (·.1) = l'.map (·.1)
  | [], [], _ => rfl
  | _ :: _, _ :: _, ⟨h1, _, h4⟩ => by simp only [List.map_cons, h1, RowsIn.keys h4]
theorem RowsIn.snoc {R : List (Addr × Obj)} {p r : Int × Value} (h1 : p.1 = r.1) (h2 : ∃ a t n, r.2 = .ref a ∧ (a, ({ cls := .type "tuple", data := .seq #[.int 0 t, p.2] n } : Obj)) ∈ R) : ∀ {l l' : List (Int × Value)}, RowsIn R l l' → RowsIn R (l ++ [p]) (l' ++ [r])
  | [], [], _ => ⟨h1, h2, trivial⟩
  | _ :: _, _ :: _, ⟨a, b, c⟩ => ⟨a, b, RowsIn.snoc h1 h2 c⟩
theorem RowsIn.get {R : List (Addr × Obj)} {l l' : List (Int × Value)} {i : Nat} {k : Int} {y : Value} (h : RowsIn R l l') (e : l[i]? = some (k, y)) : ∃ a t n, l'[i]? = some (k, .ref a) ∧ (a, ({ cls := .type "tuple", data := .seq #[.int 0 t, y] n } : Obj)) ∈ R := by
  induction l generalizing l' i with
  | nil => rw [List.getElem?_nil] at e; exact absurd e (Option.some_ne_none _).symm
  | cons p l ih =>
    cases l' with
    | nil => exact h.elim
    | cons r l' =>
      obtain ⟨h1, ⟨a, t, n, h2, h3⟩, h4⟩ := h
      cases i with
      | zero =>
        rw [List.getElem?_cons_zero] at e
        cases e
        refine ⟨a, t, n, ?_, h3⟩
        rw [List.getElem?_cons_zero, ← h2]
        exact congrArg some (Prod.ext h1.symm rfl)
      | succ i =>
        rw [List.getElem?_cons_succ] at e
        rw [List.getElem?_cons_succ]
        exact ih h4 e
theorem RowsIn.kv {R : List (Addr × Obj)} {h : Heap} (hR : ∀ x ∈ R, h.get? x.1 = some x.2) : ∀ {l l' : List (Int × Value)} {T : List (Int × D)}, RowsIn R l l' → KV (IsD h) l T → KV (IsRow h) l' T
  | [], [], [], _, _ => trivial
  | _ :: _, _ :: _, _ :: _, ⟨h1, ⟨a, t, n, h2, h3⟩, h4⟩, ⟨q1, q2, q3⟩ => ⟨h1.symm.trans q1, ⟨a, _, t, h2, ⟨_, hR _ h3, rfl, _, rfl⟩, q2⟩, RowsIn.kv hR h4 q3⟩
theorem int_key {w : World} {k : Int} {v : Value} (h : (IK w).is k v = true) : ∃ t, v = .int k t := by
  cases v with
  | int i t =>
    have : (intKind PySem.Challenge.rw_nn0123_01.row.prog w).is k (.int i t) = true := h
    simp [intKind, Value.isInt] at this
    exact ⟨t, by rw [this]⟩
  | _ => exact absurd h (by simp [intKind, Value.isInt])
theorem allLt_right {a : Addr} {R' : List (Addr × Obj)} : ∀ {R : List (Addr × Obj)}, AllLt a (R ++ R') → AllLt a R'
  | [], h => h
  | _ :: _, h => allLt_right h.2
noncomputable abbrev ld1 {h₀ h : Heap} {L : Addr} {x y : Addr × Obj} {l : List (Addr × Obj)} (_ : News h₀ L h (x :: y :: l)) : Addr × Obj := y
noncomputable def ShelfIn (w : World) (R : List (Addr × Obj)) (sv : Value) (kvs : List (Int × Value)) : Prop :=
  ∃ (x dx : Addr) (es : List DictEntry) (n : Nat) (ts : Addr) (ods : Obj) (kvs' : List (Int × Value)), sv = .ref x ∧ (x, instObj 370 dx) ∈ R ∧ (dx, dictOf es n) ∈ R ∧ getL "table" es = some (some (.ref ts)) ∧ getL "fetch" es = some none ∧ getL "get" es = some none ∧ (ts == sysModules) = false ∧ (ts, ods) ∈ R ∧ ods.IsDictOf (IK w) kvs' ∧ RowsIn R kvs kvs'
theorem ShelfIn.more {w : World} {R R' : List (Addr × Obj)} {sv : Value} {kvs : List (Int × Value)} (hs : ∀ x ∈ R, x ∈ R') (h : ShelfIn w R sv kvs) : ShelfIn w R' sv kvs := by
  obtain ⟨x, dx, es, n, ts, ods, kvs', h0, h1, h2, h3, h4, h5, h6, h7, h8, h9⟩ := h
  exact ⟨x, dx, es, n, ts, ods, kvs', h0, hs _ h1, hs _ h2, h3, h4, h5, h6, hs _ h7, h8, h9.more hs⟩
theorem ShelfIn.is {w : World} {R : List (Addr × Obj)} {sv : Value} {kvs : List (Int × Value)} {T : List (Int × D)} {h : Heap} (s : ShelfIn w R sv kvs) (hk : HasKV R kvs T) (hR : ∀ x ∈ R, h.get? x.1 = some x.2) : IsShelf w h sv T := by
  obtain ⟨x, dx, es, n, ts, ods, kvs', h0, h1, h2, h3, h4, h5, h6, h7, h8, h9⟩ := s
  exact ⟨x, dx, es, n, ts, h0, hR _ h1, hR _ h2, h3, h4, h5, h6, kvs', Heap.dictOf_iff.mpr ⟨ods, hR _ h7, h8⟩, h9.kv hR (hk h hR)⟩
section
local macro_rules | `(tactic| k_enter) => `(tactic| kcf_m)
local macro_rules | `(tactic| k_all) => `(tactic| with_reducible assumption)
local macro_rules | `(tactic| walk_at "eval ListComp") => `(tactic| refine Hold.out ?_)
local macro_rules | `(tactic| walk_at "call type:dict") => `(tactic| refine Hold.out ?_)
local macro_rules | `(tactic| walk_at "subscriptTail") => `(tactic| refine Hold.out ?_)
local macro_rules | `(tactic| walk_at "call ref") => `(tactic| ((with_reducible show wpAny _ _ (call (Value.ref 420) [_]) _ _ _); refine Hold.out ?_))
local macro_rules | `(tactic| walk_at "call ref") => `(tactic| ((with_reducible show wpAny _ _ (call (Value.ref 453) [_]) _ _ _); refine Hold.out ?_))
local macro_rules | `(tactic| walk_at "nothing at all") => `(tactic| fail)
local macro_rules | `(tactic| walk_at "nothing at all") => `(tactic| fail)
theorem pre_a {w : World} {mean : ExcName → Option Value} {mg mb : Str → Option Value} {h₀ : Heap} {L fa : Addr} {cd : Value} {m : Str → Option Value} {s : Shared} {E : Value → Shared → Prop} {P : Shared → Prop} {c5 c4 c3 c2 c1 : Obj} {v1 : Option Value} {sc : Addr} {vs : List Value} {ns : List Int}
    (B : Below callerA h₀ [] h₀) (F : Fr h₀ L s.heap m) (X : (hd.heap_1 w.params).In h₀) (T : Top view (looseW view looseN) mean mg mb h₀)
    (N : News h₀ L s.heap [(L + 5, c5), (L + 4, c4), (L + 3, c3), (L + 2, c2), (L + 1, c1)]) (d1 : c1.data = .cell v1)
    (hms : m (Str.ofString "script") = some (.ref sc)) (hl : s.heap.IsList sc vs.toArray) (hi : IntsAre vs ns) (hle : vs.length ≤ 63)
    (ret : ∀ h' tk' m' c1' (p q : Addr) op oq (t : Addr) T' R od kvs, Fr h₀ L h' m' → News h₀ L h' ((L + 5, c5) :: (L + 4, c4) :: (L + 3, c3) :: (L + 2, c2) :: (L + 1, c1') :: (p, op) :: (q, oq) :: R) → m' (Str.ofString "pen") = some (.ref p) → IsPen q op oq → (@Ne Nat p q) → (@Ne Nat (L + 1) p) → (@Ne Nat (L + 2) p) → (@Ne Nat (L + 3) p) → (@Ne Nat (L + 4) p) → (@Ne Nat (L + 5) p) → (@Ne Nat (L + 1) q) → (@Ne Nat (L + 2) q) → (@Ne Nat (L + 3) q) → (@Ne Nat (L + 4) q) → (@Ne Nat (L + 5) q) → OffL L p q R → c1'.data = .cell (some (.ref t)) → (t == sysModules) = false → (t, od) ∈ R → od.IsDictOf (IK w) kvs → HasKV R kvs T' → (∃ n, n ≤ 4 ∧ T'.map (·.1) = ks n) → P { s with heap := h', toks := tk' }) :
    wpAny (model PySem.Challenge.rw_nn0123_01.row.prog w) (callerA.deeper (envOfC (Str.ofString "law") (lawS w) L fa cd)) (execs ((lawB w).take 2) (envOfC (Str.ofString "law") (lawS w) L fa cd)) (AtEnd P) E s := by
  revert X; k_fill; intro X
  have e1 : lawB w = [_, _, _, _, _] := rfl
  have e2 : lawS w = ⟨_, _, _, _, _⟩ := rfl
  rw [e1, e2]
  dsimp only [List.drop, List.take]
  clear e1 e2
  obtain ⟨m0, rfl⟩ : ∃ m0 : Str → Option Value, m = fun y => if y = Str.ofString "script" then some (.ref sc) else m0 y := ⟨m, by
    funext y
    by_cases hy : y = Str.ofString "script"
    · rw [if_pos hy, hy, hms]
    · rw [if_neg hy]⟩
  clear hms
  (try k_fold)
  k_steps
  unfold Hold
  refine' pen_ok B F X T ?hk News.nil hl hi hle ?hd ?hu ?_
  case hk => rfl
  case hd => ktr_room
  case hu => ktr_units
  intro p q op oq h1 tk1 F1 b1 hp1 hq1 hp0 hq0 hpq hpen
  have Np : News h₀ L h1 [(p, op)] := news1 F hp1 hp0
  have Nq : News h₀ L h1 [(q, oq)] := news1 F hq1 hq0
  have Nc := newsStay N b1
  have Nl : News h₀ L h1 [(L + 5, c5), (L + 4, c4), (L + 3, c3), (L + 2, c2), (L + 1, c1), (p, op), (q, oq)] := by
    intro x hx
    simp only [List.mem_cons, List.not_mem_nil, or_false] at hx
    rcases hx with h | h | h | h | h | rfl | rfl
    · exact Nc x (by simp [h])
    · exact Nc x (by simp [h])
    · exact Nc x (by simp [h])
    · exact Nc x (by simp [h])
    · exact Nc x (by simp [h])
    · exact Np _ List.mem_cons_self
    · exact Nq _ List.mem_cons_self
  have np1 : @Ne Nat (L + 1) p := fun e => by have := (N (L + 1, c1) (by k_mem)).1; rw [show (L + 1, c1).1 = p from e, hp0] at this; cases this
  have np2 : @Ne Nat (L + 2) p := fun e => by have := (N (L + 2, c2) (by k_mem)).1; rw [show (L + 2, c2).1 = p from e, hp0] at this; cases this
  have np3 : @Ne Nat (L + 3) p := fun e => by have := (N (L + 3, c3) (by k_mem)).1; rw [show (L + 3, c3).1 = p from e, hp0] at this; cases this
  have np4 : @Ne Nat (L + 4) p := fun e => by have := (N (L + 4, c4) (by k_mem)).1; rw [show (L + 4, c4).1 = p from e, hp0] at this; cases this
  have np5 : @Ne Nat (L + 5) p := fun e => by have := (N (L + 5, c5) (by k_mem)).1; rw [show (L + 5, c5).1 = p from e, hp0] at this; cases this
  have nq1 : @Ne Nat (L + 1) q := fun e => by have := (N (L + 1, c1) (by k_mem)).1; rw [show (L + 1, c1).1 = q from e, hq0] at this; cases this
  have nq2 : @Ne Nat (L + 2) q := fun e => by have := (N (L + 2, c2) (by k_mem)).1; rw [show (L + 2, c2).1 = q from e, hq0] at this; cases this
  have nq3 : @Ne Nat (L + 3) q := fun e => by have := (N (L + 3, c3) (by k_mem)).1; rw [show (L + 3, c3).1 = q from e, hq0] at this; cases this
  have nq4 : @Ne Nat (L + 4) q := fun e => by have := (N (L + 4, c4) (by k_mem)).1; rw [show (L + 4, c4).1 = q from e, hq0] at this; cases this
  have nq5 : @Ne Nat (L + 5) q := fun e => by have := (N (L + 5, c5) (by k_mem)).1; rw [show (L + 5, c5).1 = q from e, hq0] at this; cases this
  clear N Np Nq Nc
  k_steps
  unfold Hold
  rename Fr h₀ _ _ _ => Fz
  rename News h₀ _ _ _ => Nz
  refine' shelf_ok B Fz X T ?hk Nz ?U1 ?U2 hpen hpq ?hd ?hu ?_
  case hk => rfl
  case hd => ktr_room
  case hu => ktr_units
  case U1 => k_updF
  case U2 => (intro o8; (try dsimp only); k_updF)
  intro t R od kvs T' h2 tk2 op2 oq2 F2 N2 hpen2 b2 hf2 lo2 hd2 hk2 hks2
  have hoff : OffL L p q ((t, od) :: R) := fun x hx => ⟨fresh_ne (Nz (p, op) (by k_mem)).1 (hf2 x hx).2, fresh_ne (Nz (q, oq) (by k_mem)).1 (hf2 x hx).2, fresh_ne (Nz (L + 1, c1) (by k_mem)).1 (hf2 x hx).2, fresh_ne (Nz (L + 2, c2) (by k_mem)).1 (hf2 x hx).2, fresh_ne (Nz (L + 3, c3) (by k_mem)).1 (hf2 x hx).2, fresh_ne (Nz (L + 4, c4) (by k_mem)).1 (hf2 x hx).2, fresh_ne (Nz (L + 5, c5) (by k_mem)).1 (hf2 x hx).2⟩
  have N10 := news_add N2 Fz hf2
  simp only [List.cons_append, List.nil_append] at N10
  clear N2
  have ht1 : @Ne Nat t (L + 1) := (hoff _ List.mem_cons_self).2.2.1
  have hR1 : ∀ x ∈ R, x.1 ≠ L + 1 := fun x hx => (hoff x (List.mem_cons_of_mem _ hx)).2.2.1
  k_steps
  unfold AtEnd
  dsimp only [Hold]
  exact ret _ _ _ _ p q _ _ t T' ((t, od) :: R) od kvs (by assumption) (by assumption) (by rfl) hpen2 hpq np1 np2 np3 np4 np5 nq1 nq2 nq3 nq4 nq5 hoff (by assumption) lo2 List.mem_cons_self hd2 (fun h hR => hk2 h fun x hx => hR x (List.mem_cons_of_mem _ hx)) hks2
theorem pre_b {w : World} {mean : ExcName → Option Value} {mg mb : Str → Option Value} {h₀ : Heap} {L fa : Addr} {cd : Value} {m : Str → Option Value} {s : Shared} {E : Value → Shared → Prop} {P : Shared → Prop} {R : List (Addr × Obj)} {c5 c4 c3 c2 c1 : Obj} {t : Addr} {od : Obj} {kvs : List (Int × Value)} {T' : List (Int × D)} {v2 : Option Value}
    (B : Below callerA h₀ [] h₀) (F : Fr h₀ L s.heap m) (X : (hd.heap_1 w.params).In h₀) (T : Top view (looseW view looseN) mean mg mb h₀)
    (N : News h₀ L s.heap ((L + 5, c5) :: (L + 4, c4) :: (L + 3, c3) :: (L + 2, c2) :: (L + 1, c1) :: R)) (d2 : c2.data = .cell v2) (d1 : c1.data = .cell (some (.ref t))) (hm : (t, od) ∈ R) (hdo : od.IsDictOf (IK w) kvs) (lo : (t == sysModules) = false) (hle : kvs.length ≤ 8) (hR2 : ∀ x ∈ R, x.1 ≠ L + 2)
    (ret : ∀ h' tk' m' c2' sv Rn, Fr h₀ L h' m' → News h₀ L h' ((L + 5, c5) :: (L + 4, c4) :: (L + 3, c3) :: (L + 2, c2') :: (L + 1, c1) :: (Rn ++ R)) → m' (Str.ofString "pen") = m (Str.ofString "pen") → c2'.data = .cell (some sv) → ShelfIn w Rn sv kvs → Apart Rn ((L + 5, c5) :: (L + 4, c4) :: (L + 3, c3) :: (L + 2, c2) :: (L + 1, c1) :: R) → P { s with heap := h', toks := tk' }) :
    wpAny (model PySem.Challenge.rw_nn0123_01.row.prog w) (callerA.deeper (envOfC (Str.ofString "law") (lawS w) L fa cd)) (execs (((lawB w).drop 2).take 1) (envOfC (Str.ofString "law") (lawS w) L fa cd)) (AtEnd P) E s := by
  revert X; k_fill; intro X
  have e1 : lawB w = [_, _, _, _, _] := rfl
  have e2 : lawS w = ⟨_, _, _, _, _⟩ := rfl
  rw [e1, e2]
  dsimp only [List.drop, List.take]
  clear e1 e2
  (try k_fold)
  k_steps
  unfold Hold
  refine ListComp_D (IK w) F (by with_unfolding_all rfl) (by decide) (by rfl) (by decide) (by rfl) ?_
  k_steps
  rename Fr h₀ _ _ _ => Fz
  rename News h₀ _ _ _ => Nz
  have hnd : (kvs.map (·.1)).Nodup := (by obtain ⟨_, _, _, _, _, _, hn⟩ := hdo; exact hn)
  refine ⟨t, od, kvs, _, rfl, by rfl, Fz, Nz, (by repeat (first | exact hm | refine List.mem_cons_of_mem _ ?_)), hdo, lo, by rw [sizeLine_eq]; omega, fun s₂ ⟨g', e⟩ => e ▸ ?_⟩
  refine comp_allN (fun i ys nw => Hold (∃ Rt kvsS, nw = ((L + 5, c5) :: (L + 4, c4) :: (L + 3, c3) :: (L + 2, c2) :: (L + 1, c1) :: (Rt ++ R)) ∧ PairsR PySem.Challenge.rw_nn0123_01.row.prog w (IK w) Rt ys kvsS ∧ RowsIn Rt (kvs.take i) kvsS ∧ Apart Rt ((L + 5, c5) :: (L + 4, c4) :: (L + 3, c3) :: (L + 2, c2) :: (L + 1, c1) :: R))) ?_ ⟨[], [], rfl, fun _ _ => trivial, trivial, apart_nil⟩ ?_
  · intro i v ys nw I oI C oC D m₂ h tk E' hi hv hinv hC hx F2 N2 off ne
    obtain ⟨k, y, hky, hkv⟩ := hv
    obtain ⟨tv, rfl⟩ := int_key hkv
    obtain ⟨Rt, kvsS, rfl, hp, hrow, hap⟩ := hinv
    have off0 := off
    simp only [Off3] at off
    have hv1 := valueAt_of_get hnd hky
    have htk := take_snoc hky
    k_steps
    unfold Hold
    rename Fr h₀ _ _ _ => Fz
    rename News h₀ _ _ _ => Nz
    refine dsub (knd := IK w) (g := Shared.heap _) (fun b o e => e) (Heap.dictOf_iff.mpr ⟨od, (Nz (t, od) (by repeat (first | exact hm | exact hx | refine List.mem_cons_of_mem _ ?_ | refine List.mem_append_right _ ?_))).1, hdo⟩) (intKind_is _ _ _ _) hv1 ?_
    k_steps
    rename Fr h₀ _ _ _ => Fz
    rename News h₀ _ _ _ => Nz
    obtain ⟨g1, g2, g3, g4, g5, g6, g7, g8, hlt⟩ : _ ∧ _ ∧ _ ∧ _ ∧ _ ∧ _ ∧ _ ∧ _ ∧ AllLt _ (Rt ++ R) := by assumption
    have hall : AllLt _ ((L + 5, c5) :: (L + 4, c4) :: (L + 3, c3) :: (L + 2, c2) :: (L + 1, c1) :: R) := ⟨g4, g5, g6, g7, g8, allLt_right hlt⟩
    have ht1 : @Ne Nat (hd1 Nz).1 I ∧ @Ne Nat (hd1 Nz).1 C ∧ @Ne Nat (hd1 Nz).1 D := by dsimp only [hd1]; exact ⟨by k_ne, by k_ne, by k_ne⟩
    have ht2 : @Ne Nat (ld1 Nz).1 I ∧ @Ne Nat (ld1 Nz).1 C ∧ @Ne Nat (ld1 Nz).1 D := by dsimp only [ld1]; exact ⟨by k_ne, by k_ne, by k_ne⟩
    refine LCg.CompEnd.intro Fz Nz ((L + 5, c5) :: (L + 4, c4) :: (L + 3, c3) :: (L + 2, c2) :: (L + 1, c1) :: hd1 Nz :: ld1 Nz :: (Rt ++ R)) (by intro y hy; simp only [List.mem_cons] at hy; rcases hy with rfl | rfl | rfl | rfl | rfl | rfl | rfl | rfl | rfl | rfl | hx <;> first | k_mem | (repeat (first | exact hx | refine List.mem_cons_of_mem _ ?_))) (Off3.of fun x hx => ?_) (by repeat (first | exact hm | exact hx | refine List.mem_cons_of_mem _ ?_ | refine List.mem_append_right _ ?_)) ⟨hd1 Nz :: ld1 Nz :: Rt, kvsS ++ [(k, .ref (ld1 Nz).1)], rfl, fun h hR => PairsAt.snoc ⟨_, _, _, rfl, hR _ List.mem_cons_self, intKind_is _ _ _ _⟩ (hp h fun x hx => hR x (List.mem_cons_of_mem _ (List.mem_cons_of_mem _ hx))), ?_, Apart.app (R := [_, _]) (apart_lt hall (le2 (by omega) (by omega))) hap⟩
    · have hx' : x = hd1 Nz ∨ x = ld1 Nz ∨ x ∈ ((L + 5, c5) :: (L + 4, c4) :: (L + 3, c3) :: (L + 2, c2) :: (L + 1, c1) :: (Rt ++ R)) := by
        simp only [List.mem_cons] at hx ⊢
        rcases hx with h | h | h | h | h | h | h | h <;> first | exact .inl h | exact .inr (.inl h) | (refine .inr (.inr ?_); repeat (first | exact h | exact .inl h | refine .inr ?_))
      rcases hx' with rfl | rfl | hx'
      · exact ht1
      · exact ht2
      · exact Off3.mem off0 x hx'
    · rw [htk]
      exact RowsIn.snoc (p := (k, y)) (r := (k, .ref (ld1 Nz).1)) rfl ⟨(ld1 Nz).1, _, _, rfl, List.mem_cons_of_mem _ List.mem_cons_self⟩ (hrow.more fun x hx => List.mem_cons_of_mem _ (List.mem_cons_of_mem _ hx))
  · intro ys nw hinv
    obtain ⟨Rt, kvsS, rfl, hp, hrow, hap⟩ := hinv
    rw [List.take_length] at hrow
    have hkeys := hrow.keys
    have hlen' : kvsS.length = kvs.length := by
      have := congrArg List.length hkeys
      rw [List.length_map, List.length_map] at this
      exact this.symm
    k_steps
    unfold Hold
    rename Fr h₀ _ _ _ => Fz
    rename News h₀ _ _ _ => Nz
    refine dict_N (knd := IK w) (by rfl) Fz Nz T.nolimit List.mem_cons_self (hp _ fun x hx => (Nz x (by repeat (first | exact hx | refine List.mem_cons_of_mem _ ?_ | refine List.mem_append_left _ ?_))).1) (by rw [← hkeys]; exact hnd) (by omega) ?_
    intro e oe h7 tk7 F7 N7 hl7 lo7 hd7
    have he2 : @Ne Nat e (L + 2) := Nat.ne_of_gt (hl7 (L + 2, c2) (by k_mem))
    have hR2' : ∀ x ∈ Rt ++ R, x.1 ≠ L + 2 := List.forall_mem_append.mpr ⟨fun x hx => hap x hx (L + 2, c2) (by k_mem), hR2⟩
    k_steps
    unfold AtEnd
    dsimp only [Hold]
    rename Obj.data _ = Data.cell (some (Value.ref _)) => d2'
    rename Fr h₀ _ _ _ => Fy
    rename News h₀ _ _ _ => Ny
    obtain ⟨g1, g2, g3, g4, g5, g6, g7, hlt⟩ : _ ∧ _ ∧ _ ∧ _ ∧ _ ∧ _ ∧ _ ∧ AllLt _ (Rt ++ R) := by assumption
    have hall : AllLt _ ((L + 5, c5) :: (L + 4, c4) :: (L + 3, c3) :: (L + 2, c2) :: (L + 1, c1) :: R) := ⟨g3, g4, g5, g6, g7, allLt_right hlt⟩
    refine ret _ _ _ _ _ (hd1 Ny :: ld1 Ny :: (e, oe) :: Rt) Fy (news_sub Ny ?_) (by rfl) d2' ⟨_, _, _, _, e, oe, kvsS, rfl, List.mem_cons_self, List.mem_cons_of_mem _ List.mem_cons_self, by rfl, by rfl, by rfl, lo7, by k_mem, hd7, hrow.more fun x hx => List.mem_cons_of_mem _ (List.mem_cons_of_mem _ (List.mem_cons_of_mem _ hx))⟩ ?_
    · intro y hy
      simp only [List.cons_append, List.mem_cons] at hy
      rcases hy with rfl | rfl | rfl | rfl | rfl | rfl | rfl | rfl | hx <;> first | k_mem | (repeat (first | exact hx | refine List.mem_cons_of_mem _ ?_))
    · exact Apart.app (R := [_, _]) (apart_lt hall (le2 (by omega) (by omega))) (Apart.app (R := [(e, oe)]) (fun x hx y hy => by
        rw [List.mem_singleton.mp hx]
        refine Nat.ne_of_gt (hl7 y ?_)
        simp only [List.mem_cons] at hy
        rcases hy with rfl | rfl | rfl | rfl | rfl | hx <;> first | k_mem | (repeat (first | exact hm | exact hx | refine List.mem_cons_of_mem _ ?_ | refine List.mem_append_right _ ?_))) hap)
end

set_option maxRecDepth 100000
set_option maxHeartbeats 8000000

noncomputable def ghost (R : List (Addr × Obj)) (h : Heap) : Heap := { h with objs := h.objs.mapIdx fun i o => if R.any (fun x => decide (x.1 = i)) then o else { cls := .none, data := .freed } }
theorem ghost_get (R : List (Addr × Obj)) (h : Heap) (b : Addr) : (ghost R h).get? b = if R.any (fun x => decide (x.1 = b)) then h.get? b else none := by
  unfold ghost Heap.get?
  simp only [Array.getElem?_mapIdx]
  cases h.objs[b]? with
  | none => simp
  | some o =>
    simp only [Option.map_some]
    cases hR : R.any (fun x => decide (x.1 = b)) with
    | true => simp only [if_true]
    | false => simp only [Bool.false_eq_true, if_false]
theorem ghost_in {R : List (Addr × Obj)} {h : Heap} (hN : ∀ x ∈ R, h.get? x.1 = some x.2) : ∀ b o, (ghost R h).get? b = some o → (b, o) ∈ R := fun b o e => by
  rw [ghost_get] at e
  cases hR : R.any (fun x => decide (x.1 = b)) with
  | true =>
    rw [hR, if_pos rfl] at e
    obtain ⟨x, hx, hb⟩ := List.any_eq_true.mp hR
    have hb' : x.1 = b := of_decide_eq_true hb
    have h1 := hN x hx
    rw [hb', e] at h1
    cases h1
    rw [← hb']
    exact hx
  | false => rw [hR] at e; simp at e
theorem ghost_has {R : List (Addr × Obj)} {h : Heap} (hN : ∀ x ∈ R, h.get? x.1 = some x.2) : ∀ x ∈ R, (ghost R h).get? x.1 = some x.2 := fun x hx => by
  rw [ghost_get, if_pos (List.any_eq_true.mpr ⟨x, hx, decide_eq_true rfl⟩)]
  exact hN x hx
theorem HasKV.more {K : Type} {R R' : List (Addr × Obj)} {kvs : List (K × Value)} {T : List (K × D)} (h : HasKV R kvs T) (hs : ∀ x ∈ R, x ∈ R') : HasKV R' kvs T := fun g hR => h g fun x hx => hR x (hs x hx)
theorem turn_ok {w : World} {mean : ExcName → Option Value} {mg mb : Str → Option Value} {h₀ : Heap} {L fa : Addr} {cd : Value} {m : Str → Option Value} {s : Shared} {P : Shared → Prop} {R : List (Addr × Obj)} {c5 c4 c3 c2 c1 : Obj} {p q t : Addr} {op oq odT : Obj} {kvsT : List (Int × Value)} {T' : List (Int × D)} {sv : Value} {v5 v4 v3 : Option Value}
    (B : Below callerA h₀ [] h₀) (F : Fr h₀ L s.heap m) (X : (hd.heap_1 w.params).In h₀) (T : Top view (looseW view looseN) mean mg mb h₀)
    (N : News h₀ L s.heap ((L + 5, c5) :: (L + 4, c4) :: (L + 3, c3) :: (L + 2, c2) :: (L + 1, c1) :: (p, op) :: (q, oq) :: R)) (d5 : c5.data = .cell v5) (d4 : c4.data = .cell v4) (d3 : c3.data = .cell v3) (d2 : c2.data = .cell (some sv)) (d1 : c1.data = .cell (some (.ref t)))
    (hmp : m (Str.ofString "pen") = some (.ref p)) (hpen : IsPen q op oq) (hpq : @Ne Nat p q) (np1 : @Ne Nat (L + 1) p) (np2 : @Ne Nat (L + 2) p) (np3 : @Ne Nat (L + 3) p) (np4 : @Ne Nat (L + 4) p) (np5 : @Ne Nat (L + 5) p) (nq1 : @Ne Nat (L + 1) q) (nq2 : @Ne Nat (L + 2) q) (nq3 : @Ne Nat (L + 3) q) (nq4 : @Ne Nat (L + 4) q) (nq5 : @Ne Nat (L + 5) q) (hoff : OffL L p q R)
    (hmT : (t, odT) ∈ R) (hdT : odT.IsDictOf (IK w) kvsT) (loT : (t == sysModules) = false) (hkT : HasKV R kvsT T') (hks : ∃ n, n ≤ 4 ∧ T'.map (·.1) = ks n) (hsh : ShelfIn w R sv kvsT)
    (ret : ∀ h' tk' m' c5' c4' c3' op' oq' R' v5' v4' v3', Fr h₀ L h' m' → News h₀ L h' ((L + 5, c5') :: (L + 4, c4') :: (L + 3, c3') :: (L + 2, c2) :: (L + 1, c1) :: (p, op') :: (q, oq') :: (R' ++ R)) → c5'.data = .cell v5' → c4'.data = .cell v4' → c3'.data = .cell v3' → m' (Str.ofString "pen") = some (.ref p) → IsPen q op' oq' → OffL L p q R' → Apart R' R → P { s with heap := h', toks := tk' }) :
    wpAny (model PySem.Challenge.rw_nn0123_01.row.prog w) (callerA.deeper (envOfC (Str.ofString "law") (lawS w) L fa cd)) (execs (turnB w) (envOfC (Str.ofString "law") (lawS w) L fa cd)) (AtEnd P) (fun _ _ => False) s := by
  have e : turnB w = ((turnB w).drop 0).take 2 ++ (((turnB w).drop 2).take 1 ++ (((turnB w).drop 3).take 1 ++ (((turnB w).drop 4).take 3 ++ (((turnB w).drop 7).take 3 ++ (((turnB w).drop 10).take 3 ++ ((turnB w).drop 13).take 3))))) := rfl
  rw [e]
  refine execs_app (gh_ok (E := fun _ _ => False) B F X T N d3 hmp hpen hpq np1 np2 np3 np4 np5 nq1 nq2 nq3 nq4 nq5 hoff ?_)
  intro c d ss h1 tk1 m1 c3' F1 N1 hm1 d3' lo1 hss hP1 hod1
  have hpn : OffL L p q ((d, c.od) :: (c.R ++ R)) := fun x hx => (List.mem_cons.mp hx).elim (fun e => hod1 x (by rw [e]; exact List.mem_cons_self)) (hP1.offl x)
  have hkl : c.kvs.length = ss.length := by
    have h2 := (hP1.has h1 fun x hx => (N1 x (by simp [hx])).1).len
    have h3 := congrArg List.length hP1.keys
    rw [List.take_length, List.length_map] at h3
    omega
  have hk2 : HasKV ((d, c.od) :: (p, c.op) :: (q, c.oq) :: (c.R ++ R)) c.kvs c.H := hP1.has.more fun x hx => by simp [hx]
  have hR4 : ∀ x ∈ (d, c.od) :: (p, c.op) :: (q, c.oq) :: (c.R ++ R), x.1 ≠ L + 4 := fun x hx => by
    simp only [List.mem_cons] at hx
    rcases hx with rfl | rfl | rfl | hx
    · exact (hpn _ List.mem_cons_self).2.2.2.2.2.1
    · exact Ne.symm np4
    · exact Ne.symm nq4
    · exact (hP1.offl x hx).2.2.2.2.2.1
  refine execs_app (gheld_ok B F1 X T N1 d3' d4 List.mem_cons_self hP1.dic lo1 hk2 (by omega) hR4 ?_)
  intro h2 tk2 m2 c4' e2 oe kvs' H' F2 N2 hm2 d4' lo2 hde hkH hsub hle2 hlt2
  have hRR : ∀ x ∈ R, x ∈ (e2, oe) :: (d, c.od) :: (p, c.op) :: (q, c.oq) :: (c.R ++ R) := fun x hx => by simp [hx]
  have hN2 : ∀ x ∈ (e2, oe) :: (d, c.od) :: (p, c.op) :: (q, c.oq) :: (c.R ++ R), h2.get? x.1 = some x.2 := fun x hx => (N2 x (by
    simp only [List.mem_cons] at hx ⊢
    simp only [hx, or_true])).1
  have hgR := ghost_in hN2
  have hgH := ghost_has hN2
  generalize ghost ((e2, oe) :: (d, c.od) :: (p, c.op) :: (q, c.oq) :: (c.R ++ R)) h2 = g at hgR hgH
  have hgH' : ∀ x ∈ R, g.get? x.1 = some x.2 := fun x hx => hgH x (hRR x hx)
  have hTab : IsTabL w g t T' := ⟨loT, kvsT, Heap.dictOf_iff.mpr ⟨odT, hgH' _ hmT, hdT⟩, hkT g hgH'⟩
  have hSh : IsShelf w g sv T' := hsh.is hkT hgH'
  have hHd : IsHead w g e2 H' := ⟨lo2, kvs', Heap.dictOf_iff.mpr ⟨oe, hgH _ List.mem_cons_self, hde⟩, hkH g fun x hx => hgH x (List.mem_cons_of_mem _ hx)⟩
  have hFL : fetchK T' 30 = lawF T' 9 := by
    obtain ⟨n, hn, hk⟩ := hks
    exact fetch_eq hk hn
  have hHl : H'.length ≤ 8 := by
    have := (hkH g fun x hx => hgH x (List.mem_cons_of_mem _ hx)).len
    omega
  refine execs_app (g0_ok B F2 X T N2 hgR d4' d2 d1 hTab hSh hHd hFL hHl ?_)
  intro h3 tk3 m3 rw3 vs3 n3 ss3 F3 N3 hm3 hp3 hS3 hPm3 hSo3
  have hgR3 : ∀ b o, g.get? b = some o → (b, o) ∈ (rw3, listOf vs3.toArray n3) :: (e2, oe) :: (d, c.od) :: (p, c.op) :: (q, c.oq) :: (c.R ++ R) := fun b o e => List.mem_cons_of_mem _ (hgR b o e)
  refine execs_app (g1_ok B F3 X T N3 hgR3 d4' d2 d1 hTab hSh hHd hFL ?_)
  intro h4 tk4 m4 F4 N4 hm4 hp4
  refine execs_app (g2_ok B F4 X T N4 hgR3 d4' d2 d1 hTab hSh hHd hFL ?_)
  intro h5 tk5 m5 F5 N5 hm5 hp5
  refine execs_app (g3_ok B F5 X T N5 hgR3 d4' d2 d1 hTab hSh hHd hFL ?_)
  intro h6 tk6 m6 F6 N6 hm6 hp6
  have hrow : m6 (Str.ofString "rows") = some (.ref rw3) := by rw [hm6, hm5, hm4, hm3]
  have hrw5 : @Ne Nat rw3 (L + 5) := fun e => by
    have h7 := (N6 (L + 5, c5) List.mem_cons_self).1
    have h8 := (N6 (rw3, listOf vs3.toArray n3) (by k_mem)).1
    rw [show (rw3, listOf vs3.toArray n3).1 = L + 5 from e] at h8
    rw [show (L + 5, c5).1 = L + 5 from rfl, h8] at h7
    have h9 := congrArg Obj.data (Option.some.inj h7)
    rw [show (L + 5, c5).2.data = c5.data from rfl, d5] at h9
    cases h9
  have hR5 : ∀ x ∈ (rw3, listOf vs3.toArray n3) :: (e2, oe) :: (d, c.od) :: (p, c.op) :: (q, c.oq) :: (c.R ++ R), x.1 ≠ L + 5 := fun x hx => by
    simp only [List.mem_cons] at hx
    rcases hx with rfl | rfl | rfl | rfl | rfl | hx
    · exact hrw5
    · exact Nat.ne_of_gt (hlt2 (L + 5, c5) List.mem_cons_self)
    · exact (hpn _ List.mem_cons_self).2.2.2.2.2.2
    · exact Ne.symm np5
    · exact Ne.symm nq5
    · exact (hP1.offl x hx).2.2.2.2.2.2
  refine g4_ok B F6 X T N6 hgR3 d4' d2 d1 hTab hSh hHd hFL hHl d5 hrow List.mem_cons_self hS3 hPm3 hSo3 hR5 (fun x hx => hP1.owns x (hsub x hx)) ?_
  intro h7 tk7 m7 c5' v5' F7 N7 d5' hp7
  have hpen7 : m7 (Str.ofString "pen") = some (.ref p) := by rw [hp7, hp6, hp5, hp4, hp3, hm2, hm1]
  refine ret h7 tk7 m7 c5' c4' c3' c.op c.oq ((e2, oe) :: (d, c.od) :: c.R) v5' _ _ F7 (news_sub N7 ?_) d5' d4' d3' hpen7 hP1.pen ?_ ?_
  · intro x hx
    simp only [List.cons_append, List.mem_cons] at hx ⊢
    rcases hx with h | h | h | h | h | h | h | h | h | h <;> simp only [h, true_or, or_true]
  · intro x hx
    rcases List.mem_cons.mp hx with rfl | hx
    · exact ⟨Nat.ne_of_gt (hlt2 (p, c.op) (by k_mem)), Nat.ne_of_gt (hlt2 (q, c.oq) (by k_mem)), Nat.ne_of_gt (hlt2 (L + 1, c1) (by k_mem)), Nat.ne_of_gt (hlt2 (L + 2, c2) (by k_mem)), Nat.ne_of_gt (hlt2 (L + 3, c3') (by k_mem)), Nat.ne_of_gt (hlt2 (L + 4, c4) (by k_mem)), Nat.ne_of_gt (hlt2 (L + 5, c5) (by k_mem))⟩
    · exact hpn x (by simp only [List.mem_cons, List.mem_append] at hx ⊢; rcases hx with h | h <;> simp [h])
  · intro x hx y hy
    simp only [List.mem_cons] at hx
    rcases hx with rfl | rfl | hx
    · exact Nat.ne_of_gt (hlt2 y (by simp [hy]))
    · exact Ne.symm (hP1.offd y (List.mem_append_right _ hy))
    · exact hP1.apart x hx y hy

set_option maxRecDepth 100000
set_option maxHeartbeats 8000000
theorem ne_pairs {prog : Program} {w : World} {A : Around} {E Q : Value → Shared → Prop} {s : Shared} {l b : Addr} {y : Value} {t t' : Tok} {n n' : Nat} (hl : s.heap.get? l = some { cls := .type "tuple", data := .seq #[.int 0 t, y] n }) (hb : s.heap.get? b = some { cls := .type "tuple", data := .seq #[.int 0 t', y] n' }) (hu : A.units < cLine) (q : Q (.bool false) s) :
    wpAny (model prog w) A (compareOp .NotEq (.ref l) (.ref b)) Q E s := by
  refine SeqAt.RcNeAt.tuples (e := fun _ => true) (items := #[.int 0 t, y]) (items2 := #[.int 0 t', y]) ⟨_, hl, rfl, _, rfl⟩ ⟨_, hb, rfl, _, rfl⟩ hu (fun j a1 a2 => ?_) prog w E Q ?_
  · have hj : j = 0 ∨ j = 1 := by
      have : j < 2 := a1
      omega
    rcases hj with rfl | rfl
    · have := SeqAt.EqAt.int_int (A := A.in1) (s := s) 0 t 0 t'
      exact this
    · exact SeqAt.EqAt.same _
  · exact q
section
local macro_rules | `(tactic| k_all) => `(tactic| with_reducible assumption)
local macro_rules | `(tactic| walk_at "eval ListComp") => `(tactic| refine Hold.out ?_)
local macro_rules | `(tactic| walk_at "subscriptTail") => `(tactic| refine Hold.out ?_)
local macro_rules | `(tactic| walk_at "compareOp NotEq ref ref") => `(tactic| refine Hold.out ?_)
local macro_rules | `(tactic| walk_at "compareOp Eq ref ref") => `(tactic| refine Hold.out ?_)
local macro_rules | `(tactic| walk_at "nothing at all") => `(tactic| fail)
local macro_rules | `(tactic| walk_at "nothing at all") => `(tactic| fail)
local macro_rules | `(tactic| walk_at "nothing at all") => `(tactic| fail)
local macro_rules | `(tactic| walk_at "nothing at all") => `(tactic| fail)
theorem last_ok {w : World} {mean : ExcName → Option Value} {mg mb : Str → Option Value} {h₀ : Heap} {L fa : Addr} {cd : Value} {m : Str → Option Value} {s : Shared} {E : Value → Shared → Prop} {Qf : Flow → Shared → Prop} {R : List (Addr × Obj)} {c5 c4 c3 c2 c1 : Obj} {t x dx ts : Addr} {es : List DictEntry} {n : Nat} {od ods : Obj} {kvs kvs' : List (Int × Value)}
    (B : Below callerA h₀ [] h₀) (F : Fr h₀ L s.heap m) (X : (hd.heap_1 w.params).In h₀) (T : Top view (looseW view looseN) mean mg mb h₀)
    (N : News h₀ L s.heap ((L + 5, c5) :: (L + 4, c4) :: (L + 3, c3) :: (L + 2, c2) :: (L + 1, c1) :: (x, instObj 370 dx) :: (dx, dictOf es n) :: R)) (d2 : c2.data = .cell (some (.ref x))) (d1 : c1.data = .cell (some (.ref t))) (hm : (t, od) ∈ R) (hdo : od.IsDictOf (IK w) kvs) (lo : (t == sysModules) = false) (hle : kvs.length ≤ 8)
    (hts : getL "table" es = some (some (.ref ts))) (hms : (ts, ods) ∈ R) (hds : ods.IsDictOf (IK w) kvs') (hrow : RowsIn R kvs kvs')
    (ret : ∀ h' tk' m', Fr h₀ L h' m' → Qf (.ret (.bool true)) { s with heap := h', toks := tk' }) :
    wpAny (model PySem.Challenge.rw_nn0123_01.row.prog w) (callerA.deeper (envOfC (Str.ofString "law") (lawS w) L fa cd)) (execs ((lawB w).drop 4) (envOfC (Str.ofString "law") (lawS w) L fa cd)) Qf E s := by
  revert X; k_fill; intro X
  have e1 : lawB w = [_, _, _, _, _] := rfl
  have e2 : lawS w = ⟨_, _, _, _, _⟩ := rfl
  rw [e1, e2]
  dsimp only [List.drop, List.take]
  clear e1 e2
  (try k_fold)
  k_steps
  unfold Hold
  refine ListComp_DT (IK w) F (by with_unfolding_all rfl) (by decide) (by rfl) (by decide) (by rfl) ?_
  k_steps
  rename Fr h₀ _ _ _ => Fz
  rename News h₀ _ _ _ => Nz
  have hnd : (kvs.map (·.1)).Nodup := (by obtain ⟨_, _, _, _, _, _, hn⟩ := hdo; exact hn)
  have hnd' : (kvs'.map (·.1)).Nodup := (by obtain ⟨_, _, _, _, _, _, hn⟩ := hds; exact hn)
  refine ⟨t, od, kvs, _, rfl, by rfl, Fz, Nz, (by repeat (first | exact hm | exact hms | exact hr2 | exact hx | refine List.mem_cons_of_mem _ ?_ | refine List.mem_append_right _ ?_)), hdo, lo, by rw [sizeLine_eq]; omega, fun s₂ ⟨g', e⟩ => e ▸ ?_⟩
  refine comp_skip ?_ ?_
  · intro i v I oI C oC D m₂ h tk E' hi hv hC hx F2 N2 off ne
    obtain ⟨k, y, hky, hkv⟩ := hv
    obtain ⟨tv, rfl⟩ := int_key hkv
    have off0 := off
    simp only [Off3] at off
    have hv1 := valueAt_of_get hnd hky
    obtain ⟨ra, rt, rn, hr1, hr2⟩ := hrow.get hky
    have hv2 := valueAt_of_get hnd' hr1
    k_steps
    unfold Hold
    rename Fr h₀ _ _ _ => Fz
    rename News h₀ _ _ _ => Nz
    refine kba_turn (value' := .Name (Str.ofString "z") default) (fun _ => rfl) ?_
    refine dsub (knd := IK w) (g := Shared.heap _) (fun b o e => e) (Heap.dictOf_iff.mpr ⟨ods, (Nz (ts, ods) (by repeat (first | exact hm | exact hms | exact hr2 | exact hx | refine List.mem_cons_of_mem _ ?_ | refine List.mem_append_right _ ?_))).1, hds⟩) (intKind_is _ _ _ _) hv2 ?_
    k_steps
    unfold Hold
    rename Fr h₀ _ _ _ => Fz
    rename News h₀ _ _ _ => Nz
    refine dsub (knd := IK w) (g := Shared.heap _) (fun b o e => e) (Heap.dictOf_iff.mpr ⟨od, (Nz (t, od) (by repeat (first | exact hm | exact hms | exact hr2 | exact hx | refine List.mem_cons_of_mem _ ?_ | refine List.mem_append_right _ ?_))).1, hdo⟩) (intKind_is _ _ _ _) hv1 ?_
    k_steps
    unfold Hold
    rename Fr h₀ _ _ _ => Fz
    rename News h₀ _ _ _ => Nz
    refine ne_pairs (Nz (ra, _) (by repeat (first | exact hm | exact hms | exact hr2 | exact hx | refine List.mem_cons_of_mem _ ?_ | refine List.mem_append_right _ ?_))).1 (news_here Nz (by k_mem)) (by ktr_units) ?_
    k_steps
    rename Fr h₀ _ _ _ => Fz
    rename News h₀ _ _ _ => Nz
    exact LCg.CompEnd.intro Fz Nz _ (fun p hp => List.mem_cons_of_mem _ hp) off0 (by repeat (first | exact hm | exact hms | exact hr2 | exact hx | refine List.mem_cons_of_mem _ ?_ | refine List.mem_append_right _ ?_)) rfl
  · k_steps
    rename Fr h₀ _ _ _ => Fz
    rename News h₀ _ _ _ => Nz
    refine eq_nil (ws := []) Nz (by k_mem) (by k_mem) (by ktr_units) ?_
    exact ret _ _ _ Fz
end

set_option maxRecDepth 100000
set_option maxHeartbeats 8000000
structure TuS where
  op : Obj
  oq : Obj
  c5 : Obj
  c4 : Obj
  c3 : Obj
  R : List (Addr × Obj)
noncomputable def TuLed (L p q : Addr) (c2 c1 : Obj) (R : List (Addr × Obj)) (c : TuS) : List (Addr × Obj) := (L + 5, c.c5) :: (L + 4, c.c4) :: (L + 3, c.c3) :: (L + 2, c2) :: (L + 1, c1) :: (p, c.op) :: (q, c.oq) :: (c.R ++ R)
structure TuP (L p q : Addr) (R : List (Addr × Obj)) (c : TuS) : Prop where
  pen : IsPen q c.op c.oq
  d5 : ∃ v, c.c5.data = .cell v
  d4 : ∃ v, c.c4.data = .cell v
  d3 : ∃ v, c.c3.data = .cell v
  offl : OffL L p q (c.R ++ R)
theorem touter {w : World} {mean : ExcName → Option Value} {mg mb : Str → Option Value} {h₀ : Heap} {L fa : Addr} {cd : Value} {m : Str → Option Value} {s : Shared} {R : List (Addr × Obj)} {c5 c4 c3 c2 c1 : Obj} {p q t : Addr} {op oq odT : Obj} {kvsT : List (Int × Value)} {T' : List (Int × D)} {sv : Value} {v5 v4 v3 : Option Value} {Qf : Flow → Shared → Prop} {bd : List Stmt} {r : Addr} {t0 u0 v0 : Tok}
    (B : Below callerA h₀ [] h₀) (F : Fr h₀ L s.heap m) (X : (hd.heap_1 w.params).In h₀) (T : Top view (looseW view looseN) mean mg mb h₀)
    (N : News h₀ L s.heap ((L + 5, c5) :: (L + 4, c4) :: (L + 3, c3) :: (L + 2, c2) :: (L + 1, c1) :: (p, op) :: (q, oq) :: R)) (d5 : c5.data = .cell v5) (d4 : c4.data = .cell v4) (d3 : c3.data = .cell v3) (d2 : c2.data = .cell (some sv)) (d1 : c1.data = .cell (some (.ref t)))
    (hmp : m (Str.ofString "pen") = some (.ref p)) (hpen : IsPen q op oq) (hpq : @Ne Nat p q) (np1 : @Ne Nat (L + 1) p) (np2 : @Ne Nat (L + 2) p) (np3 : @Ne Nat (L + 3) p) (np4 : @Ne Nat (L + 4) p) (np5 : @Ne Nat (L + 5) p) (nq1 : @Ne Nat (L + 1) q) (nq2 : @Ne Nat (L + 2) q) (nq3 : @Ne Nat (L + 3) q) (nq4 : @Ne Nat (L + 4) q) (nq5 : @Ne Nat (L + 5) q) (hoff : OffL L p q R)
    (hmT : (t, odT) ∈ R) (hdT : odT.IsDictOf (IK w) kvsT) (loT : (t == sysModules) = false) (hkT : HasKV R kvsT T') (hks : ∃ n, n ≤ 4 ∧ T'.map (·.1) = ks n) (hsh : ShelfIn w R sv kvsT)
    (hr : IsRange s.heap r 0 3 1 t0 u0 v0) (hbd : bd = turnB w)
    (ret : ∀ (c : TuS) h' tk' m', Fr h₀ L h' m' → News h₀ L h' (TuLed L p q c2 c1 R c) → Qf .next { s with heap := h', toks := tk' }) :
    wpAny (model PySem.Challenge.rw_nn0123_01.row.prog w) (callerA.deeper (envOfC (Str.ofString "law") (lawS w) L fa cd)) (pyIter (.ref r)) (fun it s₂ => LoopAtV PySem.Challenge.rw_nn0123_01.row.prog w (callerA.deeper (envOfC (Str.ofString "law") (lawS w) L fa cd)) h₀ (envOfC (Str.ofString "law") (lawS w) L fa cd) (Str.ofString "turn") bd Qf (fun _ _ => False) it s₂) (fun _ _ => False) s := by
  subst hbd
  refine grow_rangeI (fun _ m nx => ∃ c, nx = TuLed L p q c2 c1 R c ∧ m (Str.ofString "pen") = some (.ref p) ∧ TuP L p q R c) (by rfl) hr (small_from (by omega) (by omega) (by omega)) (rangeSize_nat _ _) F N ⟨⟨op, oq, c5, c4, c3, []⟩, rfl, hmp, ⟨hpen, ⟨_, d5⟩, ⟨_, d4⟩, ⟨_, d3⟩, hoff⟩⟩ ?_ ?_
  · rintro _ k t' m1 nx I h tk own' _ _ ⟨c, rfl, hm1, hP⟩ hnI hown hal F2 N2
    obtain ⟨op2, oq2, c52, c42, c32, R2⟩ := c
    obtain ⟨oI, hoI⟩ := hal
    obtain ⟨hpen2, ⟨v52, d52⟩, ⟨v42, d42⟩, ⟨v32, d32⟩, hoff2⟩ := hP
    dsimp only at hpen2 d52 d42 d32 hoff2
    have hI : ∀ z : Addr × Obj, z ∈ TuLed L p q c2 c1 R ⟨op2, oq2, c52, c42, c32, R2⟩ → I ≠ z.1 := fun z hz => Ne.symm (hnI z hz)
    have ho1 : OffL L p q own' := fun x hx => by
      rw [hown x hx]
      exact ⟨hI (p, op2) (by unfold TuLed; k_mem), hI (q, oq2) (by unfold TuLed; k_mem), hI (L + 1, c1) (by unfold TuLed; k_mem), hI (L + 2, c2) (by unfold TuLed; k_mem), hI (L + 3, c32) (by unfold TuLed; k_mem), hI (L + 4, c42) (by unfold TuLed; k_mem), hI (L + 5, c52) (by unfold TuLed; k_mem)⟩
    have hRs : ∀ x ∈ R, x ∈ (R2 ++ R) ++ own' := fun x hx => List.mem_append_left _ (List.mem_append_right _ hx)
    have hmp2 : (fun y => if y = Str.ofString "turn" then some (.int k t') else m1 y) (Str.ofString "pen") = some (.ref p) := hm1
    refine wpAny_mono (turn_ok (P := fun s' => GrowPost h₀ L (fun m nx => ∃ c, nx = TuLed L p q c2 c1 R c ∧ m (Str.ofString "pen") = some (.ref p) ∧ TuP L p q R c) own' I { s with heap := h, toks := tk } Qf .next s') B F2 X T N2 d52 d42 d32 d2 d1 hmp2 hpen2 hpq np1 np2 np3 np4 np5 nq1 nq2 nq3 nq4 nq5 (hoff2.app ho1) (hRs _ hmT) hdT loT (hkT.more hRs) hks (hsh.more hRs) ?_) (fun f s' q => by cases f <;> first | exact q | exact absurd q (by unfold AtEnd; exact fun z => z)) fun _ _ z => z
    intro h3 tk3 m3 c53 c43 c33 op3 oq3 R3 v53 v43 v33 F3 N3 d53 d43 d33 hm3 hpen3 hoff3 hap3
    refine ⟨h3, tk3, m3, TuLed L p q c2 c1 R ⟨op3, oq3, c53, c43, c33, R3 ++ R2⟩, rfl, F3, news_sub N3 ?_, ?_, ⟨op3, oq3, c53, c43, c33, R3 ++ R2⟩, rfl, hm3, hpen3, ⟨_, d53⟩, ⟨_, d43⟩, ⟨_, d33⟩, ?_⟩
    · intro y hy
      simp only [TuLed, List.mem_cons, List.mem_append] at hy ⊢
      rcases hy with h | h | h | h | h | h | h | h | (h | h) | h <;> first | (simp only [h, true_or, or_true]; done) | (simp [h]; done)
    · intro y hy
      simp only [TuLed, List.mem_cons, List.mem_append] at hy
      rcases hy with rfl | rfl | rfl | rfl | rfl | rfl | rfl | (h | h) | h
      · exact hnI (L + 5, c52) (by unfold TuLed; k_mem)
      · exact hnI (L + 4, c42) (by unfold TuLed; k_mem)
      · exact hnI (L + 3, c32) (by unfold TuLed; k_mem)
      · exact hnI (L + 2, c2) (by unfold TuLed; k_mem)
      · exact hnI (L + 1, c1) (by unfold TuLed; k_mem)
      · exact hnI (p, op2) (by unfold TuLed; k_mem)
      · exact hnI (q, oq2) (by unfold TuLed; k_mem)
      · exact hap3 y h (I, oI) (by simp [hoI])
      · exact hnI y (by simp [TuLed, h])
      · exact hnI y (by simp [TuLed, h])
    · show OffL L p q ((R3 ++ R2) ++ R)
      rw [List.append_assoc]
      exact hoff3.app hoff2
  · rintro m1 nx h tk ⟨c, rfl, hm1, hP⟩ F2 N2
    exact ret c _ _ _ F2 N2
section
local macro_rules | `(tactic| k_all) => `(tactic| with_reducible assumption)
local macro_rules | `(tactic| walk_at "pyIter ref") => `(tactic| ((with_reducible show wpAny _ _ (pyIter (Value.ref _)) (fun it s₂ => LoopAtV _ _ _ _ _ _ _ _ _ it s₂) _ _); refine Hold.out ?_))
local macro_rules | `(tactic| walk_at "exec For Name Call cons nil") => `(tactic| (k_here; (rename Fr _ _ _ _ => lF'); (with_unfolding_all refine' For_invVF lF' ?k1 ?k2 ?_; (case k1 => exact rfl); (case k2 => exact rfl); k_whole)))
local macro_rules | `(tactic| walk_at "nothing at all") => `(tactic| fail)
local macro_rules | `(tactic| walk_at "nothing at all") => `(tactic| fail)
local macro_rules | `(tactic| walk_at "nothing at all") => `(tactic| fail)
local macro_rules | `(tactic| walk_at "nothing at all") => `(tactic| fail)
local macro_rules | `(tactic| walk_at "nothing at all") => `(tactic| fail)
local macro_rules | `(tactic| walk_at "nothing at all") => `(tactic| fail)
local macro_rules | `(tactic| walk_at "nothing at all") => `(tactic| fail)
local macro_rules | `(tactic| walk_at "nothing at all") => `(tactic| fail)
theorem loop_ok {w : World} {mean : ExcName → Option Value} {mg mb : Str → Option Value} {h₀ : Heap} {L fa : Addr} {cd : Value} {m : Str → Option Value} {s : Shared} {R : List (Addr × Obj)} {c5 c4 c3 c2 c1 : Obj} {p q t : Addr} {op oq odT : Obj} {kvsT : List (Int × Value)} {T' : List (Int × D)} {sv : Value} {v5 v4 v3 : Option Value} {P : Shared → Prop}
    (B : Below callerA h₀ [] h₀) (F : Fr h₀ L s.heap m) (X : (hd.heap_1 w.params).In h₀) (T : Top view (looseW view looseN) mean mg mb h₀)
    (N : News h₀ L s.heap ((L + 5, c5) :: (L + 4, c4) :: (L + 3, c3) :: (L + 2, c2) :: (L + 1, c1) :: (p, op) :: (q, oq) :: R)) (d5 : c5.data = .cell v5) (d4 : c4.data = .cell v4) (d3 : c3.data = .cell v3) (d2 : c2.data = .cell (some sv)) (d1 : c1.data = .cell (some (.ref t)))
    (hmp : m (Str.ofString "pen") = some (.ref p)) (hpen : IsPen q op oq) (hpq : @Ne Nat p q) (np1 : @Ne Nat (L + 1) p) (np2 : @Ne Nat (L + 2) p) (np3 : @Ne Nat (L + 3) p) (np4 : @Ne Nat (L + 4) p) (np5 : @Ne Nat (L + 5) p) (nq1 : @Ne Nat (L + 1) q) (nq2 : @Ne Nat (L + 2) q) (nq3 : @Ne Nat (L + 3) q) (nq4 : @Ne Nat (L + 4) q) (nq5 : @Ne Nat (L + 5) q) (hoff : OffL L p q R)
    (hmT : (t, odT) ∈ R) (hdT : odT.IsDictOf (IK w) kvsT) (loT : (t == sysModules) = false) (hkT : HasKV R kvsT T') (hks : ∃ n, n ≤ 4 ∧ T'.map (·.1) = ks n) (hsh : ShelfIn w R sv kvsT)
    (ret : ∀ (c : TuS) h' tk' m', Fr h₀ L h' m' → News h₀ L h' (TuLed L p q c2 c1 R c) → P { s with heap := h', toks := tk' }) :
    wpAny (model PySem.Challenge.rw_nn0123_01.row.prog w) (callerA.deeper (envOfC (Str.ofString "law") (lawS w) L fa cd)) (execs (((lawB w).drop 3).take 1) (envOfC (Str.ofString "law") (lawS w) L fa cd)) (AtEnd P) (fun _ _ => False) s := by
  revert X; k_fill; intro X
  have e1 : lawB w = [_, _, _, _, _] := rfl
  have e2 : lawS w = ⟨_, _, _, _, _⟩ := rfl
  rw [e1, e2]
  dsimp only [List.drop, List.take]
  clear e1 e2
  (try k_fold)
  k_steps
  unfold Hold
  rename Fr h₀ _ _ _ => Fz
  rename News h₀ _ _ _ => Nz
  rename IsRange _ _ _ _ _ _ _ _ => rgX
  refine touter B Fz X T Nz d5 d4 d3 d2 d1 hmp hpen hpq np1 np2 np3 np4 np5 nq1 nq2 nq3 nq4 nq5 hoff hmT hdT loT hkT hks hsh rgX (by with_unfolding_all rfl) ?_
  intro c h7 tk7 m7 F7 N7
  k_steps
  unfold AtEnd
  dsimp only [Hold]
  exact ret c _ _ _ F7 N7
end
theorem law_ok {w : World} {mean : ExcName → Option Value} {mg mb : Str → Option Value} {h₀ : Heap} {L fa : Addr} {cd : Value} {m : Str → Option Value} {s : Shared} {E : Value → Shared → Prop} {Qf : Flow → Shared → Prop} {c5 c4 c3 c2 c1 : Obj} {v5 v4 v3 v2 v1 : Option Value} {sc : Addr} {vs : List Value} {ns : List Int}
    (B : Below callerA h₀ [] h₀) (F : Fr h₀ L s.heap m) (X : (hd.heap_1 w.params).In h₀) (T : Top view (looseW view looseN) mean mg mb h₀)
    (N : News h₀ L s.heap [(L + 5, c5), (L + 4, c4), (L + 3, c3), (L + 2, c2), (L + 1, c1)]) (d5 : c5.data = .cell v5) (d4 : c4.data = .cell v4) (d3 : c3.data = .cell v3) (d2 : c2.data = .cell v2) (d1 : c1.data = .cell v1)
    (hms : m (Str.ofString "script") = some (.ref sc)) (hl : s.heap.IsList sc vs.toArray) (hi : IntsAre vs ns) (hle : vs.length ≤ 63)
    (ret : ∀ h' tk' m', Fr h₀ L h' m' → Qf (.ret (.bool true)) { s with heap := h', toks := tk' }) :
    wpAny (model PySem.Challenge.rw_nn0123_01.row.prog w) (callerA.deeper (envOfC (Str.ofString "law") (lawS w) L fa cd)) (execs (lawB w) (envOfC (Str.ofString "law") (lawS w) L fa cd)) Qf E s := by
  have e : lawB w = (lawB w).take 2 ++ (((lawB w).drop 2).take 1 ++ (((lawB w).drop 3).take 1 ++ (lawB w).drop 4)) := rfl
  rw [e]
  refine wpAny_noRaise ?_
  refine execs_app (pre_a B F X T N d1 hms hl hi hle ?_)
  intro h1 tk1 m1 c1' p q op oq t T' R od kvs F1 N1 hm1 hpen1 hpq np1 np2 np3 np4 np5 nq1 nq2 nq3 nq4 nq5 hoff1 d1' lo1 hmt1 hd1 hk1 hks1
  have hkl : kvs.length ≤ 8 := by
    have h2 := (hk1 h1 fun x hx => (N1 x (by simp [hx])).1).len
    obtain ⟨n, hn, hk⟩ := hks1
    have h3 := congrArg List.length hk
    simp [ks] at h3
    omega
  have hR2 : ∀ x ∈ (p, op) :: (q, oq) :: R, x.1 ≠ L + 2 := fun x hx => by
    simp only [List.mem_cons] at hx
    rcases hx with rfl | rfl | hx
    · exact Ne.symm np2
    · exact Ne.symm nq2
    · exact (hoff1 x hx).2.2.2.1
  refine execs_app (pre_b (T' := T') B F1 X T N1 d2 d1' (List.mem_cons_of_mem _ (List.mem_cons_of_mem _ hmt1)) hd1 lo1 hkl hR2 ?_)
  intro h2 tk2 m2 c2' sv Rn F2 N2 hm2 d2' hsh2 hap2
  have hoffn : OffL L p q Rn := fun x hx => ⟨hap2 x hx (p, op) (by k_mem), hap2 x hx (q, oq) (by k_mem), hap2 x hx (L + 1, c1') (by k_mem), hap2 x hx (L + 2, c2) (by k_mem), hap2 x hx (L + 3, c3) (by k_mem), hap2 x hx (L + 4, c4) (by k_mem), hap2 x hx (L + 5, c5) (by k_mem)⟩
  have hRr : ∀ x ∈ R, x ∈ Rn ++ R := fun x hx => List.mem_append_right _ hx
  have hRl : ∀ x ∈ Rn, x ∈ Rn ++ R := fun x hx => List.mem_append_left _ hx
  refine execs_app (loop_ok (R := Rn ++ R) B F2 X T (news_sub N2 ?_) d5 d4 d3 d2' d1' (by rw [hm2, hm1]) hpen1 hpq np1 np2 np3 np4 np5 nq1 nq2 nq3 nq4 nq5 (hoffn.app hoff1) (hRr _ hmt1) hd1 lo1 (hk1.more hRr) hks1 (hsh2.more hRl) ?_)
  · intro y hy
    simp only [List.mem_cons, List.mem_append] at hy ⊢
    rcases hy with h | h | h | h | h | h | h | h | h <;> simp only [h, true_or, or_true]
  intro c h3 tk3 m3 F3 N3
  obtain ⟨x, dx, es, n', ts, ods, kvs', rfl, hx1, hx2, hx3, hx4, hx5, hx6, hx7, hx8, hx9⟩ := hsh2
  refine last_ok (c5 := c.c5) (c4 := c.c4) (c3 := c.c3) (dx := dx) (n := n') (R := (p, c.op) :: (q, c.oq) :: (c.R ++ (Rn ++ R))) B F3 X T (news_sub N3 ?_) d2' d1' (by simp [hmt1]) hd1 lo1 hkl hx3 (by simp [hx7]) hx8 (hx9.more fun y hy => by simp [hy]) ?_
  · intro y hy
    simp only [TuLed, List.mem_cons, List.mem_append] at hy ⊢
    rcases hy with h | h | h | h | h | rfl | rfl | h | h | h
    all_goals first | simp only [h, true_or, or_true] | simp only [hx1, hx2, true_or, or_true]
  · intro h4 tk4 m4 F4
    exact ret _ _ _ F4

end Mine
open PySem PySem.W PyProof.Rows PySem.Spec PySem.Calls
local macro_rules | `(tactic| k_qdec) => `(tactic| decide +kernel)
set_option maxRecDepth 100000 in
set_option maxHeartbeats 8000000 in
theorem PySem.Challenge.cw_nn0123_01_holds : PySem.Challenge.rw_nn0123_01.Holds := by
  refine Mine.hd ?_
  w_on; k_go0; (all_goals try k_fold)
  rename Below callerA _ [] _ => B9
  rename Fr _ _ _ _ => F9
  rename News _ _ _ _ => N9
  rename (Mine.hd.heap_1 _).In _ => X9
  rename Top _ _ _ _ _ _ => T9
  rename IntsAre _ _ => I9
  rename Heap.IsList _ _ _ => L9
  rename Shared.gens _ = _ => G9
  rename Reads _ _ _ _ => R9
  rename_i h63 _ _ _ _ e5 e4 e3 e2 e1 d5 d4 d3 d2 d1 X8
  refine Mine.law_ok B9 F9 X9 T9 N9 d5 d4 d3 d2 d1 ?_ (L9.imp fun o x => ⟨F9.keep _ _ x.1, x.2⟩) I9 ?_ ?_
  · rfl
  · have := IntsAre.length I9
    omega
  · intro h' tk' m' F'
    show GoodW _ _ _ _ _ _ _
    refine goodW_bool (b := true) F' G9 (raisesW_false ?_) ?_
    · wrow_none_raised
    · wrow_post
