import PyProof.Rows.All
import Wide.All
import OpenK.AllK
import Wide.FinOn
import Lean
import PySem.Challenge.RW_nz0323_01
set_option Elab.async false
set_option linter.all false
section
open PySem PySem.W PyProof.Rows
set_option Elab.async false
set_option maxRecDepth 100000
set_option maxHeartbeats 8000000
namespace Mine
noncomputable abbrev P0 : Program := PySem.Challenge.rw_nz0323_01.row.toRowW.1
noncomputable def q0 : Pos := { line := 0, col := 0, endLine := 0, endCol := 0 }
noncomputable def qE : Pos := { line := 566, col := 0, endLine := 578, endCol := 97 }
noncomputable def envH : Env := { scope := P0.main.scope, locals := mainNs, globals := mainNs, cells := [], code := Value.ref 13, frame := some 14 }
noncomputable def codeH : Code := Code.body (behindTheImports P0) envH
noncomputable def oh11 : Obj := { cls := Value.type "tuple", data := Data.seq #[] }
noncomputable def oh12 : Obj := { cls := Value.none, data := Data.fields #[] }
noncomputable def oh13 : Obj := { cls := Value.type "code", data := Data.fields #[Value.str (Str.ofString "<module>") 182, Value.str (Str.ofString "<module>") 183, Value.str (Str.ofString "/claim/cut.py") 184, Value.int 1 0, Value.int 0 0, Value.int 0 0, Value.int 0 0, Value.int 0 0, Value.ref 11, Value.bool false, Value.int 181 0, Value.ref 12, Value.none, Value.none, Value.none, Value.none, Value.int 185 0, Value.int 1 0, Value.str (Str.ofString "/claim/cut.py") 186] }
noncomputable def oh14 : Obj := { cls := Value.type "frame", slots := #[some (Value.ref 13), some (Value.ref 3), some (Value.ref 3), none, some (Value.str (Str.ofString "__main__") 164), none, some (Value.ref 0)] }
noncomputable def treeH (P : Params) : BT :=
  BT.node (boot_o_0 P)
    (BT.node (boot_o_1 P)
      (BT.node (boot_o_3 P) (BT.node (boot_o_7 P) BT.nil BT.nil) (BT.node oh11 BT.nil BT.nil))
      (BT.node (boot_o_5 P) (BT.node (boot_o_9 P) BT.nil BT.nil) (BT.node oh13 BT.nil BT.nil)))
    (BT.node (boot_o_2 P)
      (BT.node (boot_o_4 P) (BT.node (boot_o_8 P) BT.nil BT.nil) (BT.node oh12 BT.nil BT.nil))
      (BT.node (boot_o_6 P) (BT.node (boot_o_10 P) BT.nil BT.nil) (BT.node oh14 BT.nil BT.nil)))
noncomputable abbrev stT (w : World) (os : OsState) : SharedT := { tree := treeH w.params, n := 15, life := {}, gens := #[], drawn := {}, toks := 187, os := os }
noncomputable abbrev s00 (w : World) (os : OsState) : Shared := ⟨boot_heap w.params, #[], boot_drawn, boot_toks, os⟩
theorem h_open : ∀ w : World, (fencedOpening treeTable P0 w 9830).map (fun s => (s.heap, s.gens, s.drawn, s.toks)) = some (boot_heap w.params, Array.mk [], boot_drawn, boot_toks) :=
  boot_open (by kernel_rfl) (by decide) (fun s => by kernel_rfl)
theorem h_size (w : World) : ((boot_heap w.params).isNs mainGlobals && (#[] : Array GenState).size == 0, (boot_heap w.params).objs.size, (boot_heap w.params).nsMap mainGlobals "__annotations__") = (true, 11, some (Value.ref 6)) := by kernel_rfl
theorem h_pre (w : World) : (fun os => topGo treeTable P0 w 11 (some (Value.ref 6)) 12 (s00 w os) (topStub P0)) = fun os => some ((stT w os).abs, { cur := denote treeTable codeH, code := codeH, pos := q0, stack := [topFrame q0] }) := by kernel_rfl
theorem h_block (w : World) : (fun os => segRun treeTable P0 w 11 (some (Value.ref 6)) 1 1 (stT w os).abs (blockOf (behindTheImports P0) envH codeH q0 [topFrame q0])) = fun os => some (Flow.next, (stT w os).abs, codeH, q0) := by kernel_rfl
theorem h_fin (w : World) : (fun s : Shared => topRun treeTable P0 w 11 (some (Value.ref 6)) 2 s { cur := doneF Flow.next, code := codeH, pos := qE, stack := [topFrame q0] }) = fun s => some s := by kernel_rfl
end Mine
end
section
open PySem PySem.W PyProof.Rows
set_option Elab.async false
set_option maxRecDepth 100000
set_option maxHeartbeats 8000000
namespace Mine
theorem pickR {a b : Prop} (_ : a) (y : b) : b := y
section
local macro_rules | `(tactic| o_head $_:term) => `(tactic| assumption)
/-- the written part of the heap, laid out by the library -/
theorem laid (h : OpenRow.Holds PySem.Challenge.rw_nz0323_01.row) : True := by
  refine pickR (a := OpenRow.Holds PySem.Challenge.rw_nz0323_01.row) ?_ trivial
  k_head
end
noncomputable def kO (i : Nat) (P : Params) : Obj := @List.rec (Addr × Obj) (fun _ => Obj) default (fun p _ ih => @Bool.rec (fun _ => Obj) ih p.2 (Nat.beq p.1 i)) (Mine.laid.heap_1 P)
noncomputable def eO : Obj := ⟨.none, none, .fields #[], #[]⟩
noncomputable def tO : Obj := ⟨.type "tuple", none, .seq #[] 0, #[]⟩
noncomputable def pO : Obj := ⟨.type "builtin_function_or_method", none, .fields #[.builtin "type.__prepare__", .type "type"], #[]⟩
noncomputable def iO (a : Addr) : Obj := ⟨.type "builtin_function_or_method", none, .fields #[.builtin "object.__init_subclass__", .ref a], #[]⟩
noncomputable def uO (a : Addr) : Obj := ⟨.type "super", none, .fields #[.ref a, .ref a, .ref a], #[]⟩
/-- a def's code, as the def's object says it -/
noncomputable def fT : Obj → Obj
  | ⟨_, _, .func f, _⟩ => ⟨.none, none, .func { name := f.name, qualname := f.qualname, params := f.params, body := f.body, scope := f.scope, globals := 0, closure := [], defaults := .none, kwdefaults := .none }, #[]⟩
  | o => o
noncomputable def vS (x : String) (n : Tok) : Value := .str (Str.ofString x) n
noncomputable def vI (n : Int) (t : Tok) : Value := .int n t
noncomputable def vR (a : Addr) : Value := .ref a
noncomputable def eD (P : Params) (x : String) (n : Tok) (v : Value) : DictEntry := ⟨PyData.keyHash P (Str.ofString x), .str (Str.ofString x) n, v⟩
noncomputable def cO (x : String) (a b c : Tok) (l : Int) (r : Addr) (i : Int) (q : Addr) (j : Int) (d : Tok) : Obj := ⟨.type "code", none, .fields #[vS x a, vS x b, vS "/claim/cut.py" c, vI l 0, vI 0 0, vI 0 0, vI 0 0, vI 0 0, vR r, .bool false, vI i 0, vR q, .none, .none, .none, .none, vI j 0, vI l 0, vS "/claim/cut.py" d], #[]⟩
noncomputable def rO (a b : Addr) (x : String) (n : Tok) : Obj := ⟨.type "frame", none, .plain, #[some (vR a), some (vR 3), some (vR b), none, some (vS x n), none, some (vR 0)]⟩
/-- an entry, and of a dict's entries the first but it, m of them -/
noncomputable def dPre (m n : Nat) (e : DictEntry) : Obj → Obj
  | ⟨c, d, .dict es _, s⟩ => ⟨c, d, .dict (e :: es.toList.tail.take m).toArray n, s⟩
  | o => o
noncomputable def fPre (m : Nat) : Obj → Obj
  | ⟨c, d, .fields vs, s⟩ => ⟨c, d, .fields (vs.toList.take m).toArray, s⟩
  | o => o
noncomputable def o12 : Obj := (Obj.mk .none none (.fields #[(vI 1 0), (vI 0 0), (vR 20), (vI 5 0), (vI 0 0), (vR 27), (vI 14 0), (vI 0 0), (vR 55), (vI 16 0), (vI 0 0), (vR 67), (vI 18 0), (vI 0 0), (vR 79), (vI 20 0), (vI 0 0), (vR 91), (vI 22 0), (vI 0 0), (vR 103), (vI 24 0), (vI 0 0), (vR 115), (vI 30 0), (vI 0 0), (vR 127), (vI 32 0), (vI 0 0), (vR 134), (vI 39 0), (vI 0 0), (vR 141), (vI 51 0), (vI 0 0), (vR 149), (vI 54 0), (vI 0 0), (vR 154), (vI 58 0), (vI 0 0), (vR 161), (vI 68 0), (vI 0 0), (vR 168), (vI 76 0), (vI 0 0), (vR 175), (vI 90 0), (vI 0 0), (vR 182), (vI 96 0), (vI 0 0), (vR 189), (vI 107 0), (vI 0 0), (vR 196), (vI 111 0), (vI 0 0), (vR 203), (vI 125 0), (vI 0 0), (vR 210), (vI 127 0), (vI 0 0), (vR 215), (vI 129 0), (vI 0 0), (vR 220), (vI 131 0), (vI 0 0), (vR 225), (vI 133 0), (vI 0 0), (vR 230), (vI 141 0), (vI 0 0), (vR 238), (vI 143 0), (vI 0 0), (vR 245), (vI 147 0), (vI 0 0), (vR 252), (vI 149 0), (vI 0 0), (vR 257), (vI 152 0), (vI 0 0), (vR 262), (vI 154 0), (vI 0 0), (vR 269), (vI 162 0), (vI 0 0), (vR 276), (vI 166 0), (vI 0 0), (vR 283), (vI 181 0), (vI 0 0), (vR 290), (vI 206 0), (vI 0 0), (vR 297), (vI 208 0), (vI 0 0), (vR 304), (vI 210 0), (vI 0 0), (vR 311), (vI 212 0), (vI 0 0), (vR 318), (vI 217 0), (vI 0 0), (vR 325), (vI 224 0), (vI 0 0), (vR 332), (vI 232 0), (vI 0 0), (vR 339), (vI 239 0), (vI 0 0), (vR 346), (vI 242 0), (vI 0 0), (vR 353), (vI 249 0), (vI 0 0), (vR 360), (vI 258 0), (vI 0 0), (vR 367), (vI 266 0), (vI 0 0), (vR 374), (vI 274 0), (vI 0 0), (vR 381), (vI 294 0), (vI 0 0), (vR 388), (vI 300 0), (vI 0 0), (vR 395), (vI 319 0), (vI 0 0), (vR 402), (vI 333 0), (vI 0 0), (vR 409), (vI 340 0), (vI 0 0), (vR 437), (vI 342 0), (vI 0 0), (vR 444), (vI 344 0), (vI 0 0), (vR 451), (vI 346 0), (vI 0 0), (vR 458), (vI 348 0), (vI 0 0), (vR 465), (vI 350 0), (vI 0 0), (vR 472), (vI 352 0), (vI 0 0), (vR 479), (vI 357 0), (vI 0 0), (vR 486), (vI 503 0), (vI 0 0), (vR 676), (vI 515 0), (vI 0 0), (vR 681), (vI 526 0), (vI 0 0), (vR 688), (vI 551 0), (vI 0 0), (vR 695), (vI 557 0), (vI 0 0), (vR 700), (vI 566 0), (vI 0 0), (vR 707)]) #[])
noncomputable def o24 (P : Params) : Obj := (Obj.mk (.type "dict") none (.dict #[(eD P "__module__" 203 (vS "postkeep.errors" 194)), (eD P "__qualname__" 205 (vS "PostError" 204)), (eD P "__firstlineno__" 207 (vI 5 206)), (eD P "__init__" 218 (vR 36)), (eD P "told" 225 (vR 43)), (eD P "__static_attributes__" 228 (vR 44))] 6) #[])
noncomputable def o26 : Obj := (Obj.mk .none none (.fields #[(vI 7 0), (vI 4 0), (vR 35), (vI 12 0), (vI 4 0), (vR 42)]) #[])
noncomputable def o52 (P : Params) : Obj := (Obj.mk (.type "dict") none (.dict #[(eD P "__module__" 243 (vS "postkeep.errors" 194)), (eD P "__qualname__" 245 (vS "WordFault" 244)), (eD P "__firstlineno__" 247 (vI 14 246)), (eD P "__static_attributes__" 248 (vR 57))] 4) #[])
noncomputable def o64 (P : Params) : Obj := (Obj.mk (.type "dict") none (.dict #[(eD P "__module__" 259 (vS "postkeep.errors" 194)), (eD P "__qualname__" 261 (vS "MimeFault" 260)), (eD P "__firstlineno__" 263 (vI 16 262)), (eD P "__static_attributes__" 264 (vR 69))] 4) #[])
noncomputable def o76 (P : Params) : Obj := (Obj.mk (.type "dict") none (.dict #[(eD P "__module__" 275 (vS "postkeep.errors" 194)), (eD P "__qualname__" 277 (vS "SetFault" 276)), (eD P "__firstlineno__" 279 (vI 18 278)), (eD P "__static_attributes__" 280 (vR 81))] 4) #[])
noncomputable def o88 (P : Params) : Obj := (Obj.mk (.type "dict") none (.dict #[(eD P "__module__" 291 (vS "postkeep.errors" 194)), (eD P "__qualname__" 293 (vS "WireFault" 292)), (eD P "__firstlineno__" 295 (vI 20 294)), (eD P "__static_attributes__" 296 (vR 93))] 4) #[])
noncomputable def o100 (P : Params) : Obj := (Obj.mk (.type "dict") none (.dict #[(eD P "__module__" 307 (vS "postkeep.errors" 194)), (eD P "__qualname__" 309 (vS "StoreFault" 308)), (eD P "__firstlineno__" 311 (vI 22 310)), (eD P "__static_attributes__" 312 (vR 105))] 4) #[])
noncomputable def o112 (P : Params) : Obj := (Obj.mk (.type "dict") none (.dict #[(eD P "__module__" 323 (vS "postkeep.errors" 194)), (eD P "__qualname__" 325 (vS "QueryFault" 324)), (eD P "__firstlineno__" 327 (vI 24 326)), (eD P "__static_attributes__" 328 (vR 117))] 4) #[])
noncomputable def o406 (P : Params) : Obj := (Obj.mk (.type "dict") none (.dict #[(eD P "__module__" 770 (vS "postkeep.wire" 747)), (eD P "__qualname__" 772 (vS "Atom" 771)), (eD P "__firstlineno__" 774 (vI 333 773)), (eD P "__init__" 782 (vR 417)), (eD P "told" 789 (vR 424)), (eD P "__static_attributes__" 791 (vR 425))] 6) #[])
noncomputable def o408 : Obj := (Obj.mk .none none (.fields #[(vI 335 0), (vI 4 0), (vR 416), (vI 338 0), (vI 4 0), (vR 423)]) #[])
noncomputable def o483 (P : Params) : Obj := (Obj.mk (.type "dict") none (.dict #[(eD P "__module__" 857 (vS "postkeep.wire" 747)), (eD P "__qualname__" 859 (vS "Wire" 858)), (eD P "__firstlineno__" 861 (vI 357 860)), (eD P "__init__" 871 (vR 495)), (eD P "fault" 879 (vR 502)), (eD P "peek" 886 (vR 509)), (eD P "skip" 894 (vR 516)), (eD P "need" 903 (vR 523)), (eD P "space" 910 (vR 530)), (eD P "done" 917 (vR 537)), (eD P "run" 926 (vR 544)), (eD P "word_of" 936 (vR 551)), (eD P "atom" 943 (vR 558)), (eD P "word" 950 (vR 565)), (eD P "skip_word" 958 (vR 572)), (eD P "set_text" 965 (vR 579)), (eD P "flag" 973 (vR 586)), (eD P "number" 982 (vR 593)), (eD P "quoted" 990 (vR 600)), (eD P "literal" 1000 (vR 607)), (eD P "string" 1007 (vR 614)), (eD P "string_or" 1016 (vR 621)), (eD P "astring" 1023 (vR 628)), (eD P "pattern" 1030 (vR 635)), (eD P "nstring" 1037 (vR 642)), (eD P "list_of" 1045 (vR 649)), (eD P "plain_value" 1051 (vR 654)), (eD P "value" 1061 (vR 662)), (eD P "__static_attributes__" 1064 (vR 663))] 29) #[])
noncomputable def o485 : Obj := (Obj.mk .none none (.fields #[(vI 359 0), (vI 4 0), (vR 494), (vI 363 0), (vI 4 0), (vR 501), (vI 366 0), (vI 4 0), (vR 508), (vI 369 0), (vI 4 0), (vR 515), (vI 375 0), (vI 4 0), (vR 522), (vI 379 0), (vI 4 0), (vR 529), (vI 382 0), (vI 4 0), (vR 536), (vI 387 0), (vI 4 0), (vR 543), (vI 393 0), (vI 4 0), (vR 550), (vI 399 0), (vI 4 0), (vR 557), (vI 402 0), (vI 4 0), (vR 564), (vI 405 0), (vI 4 0), (vR 571), (vI 408 0), (vI 4 0), (vR 578), (vI 411 0), (vI 4 0), (vR 585), (vI 415 0), (vI 4 0), (vR 592), (vI 422 0), (vI 4 0), (vR 599), (vI 437 0), (vI 4 0), (vR 606), (vI 451 0), (vI 4 0), (vR 613), (vI 454 0), (vI 4 0), (vR 620), (vI 462 0), (vI 4 0), (vR 627), (vI 465 0), (vI 4 0), (vR 634), (vI 468 0), (vI 4 0), (vR 641), (vI 471 0), (vI 4 0), (vR 648), (vI 474 0), (vI 4 0), (vR 653), (vI 487 0), (vI 4 0), (vR 661)]) #[])
noncomputable def t1 (P : Params) : BT := (.node (boot_o_0 P) (.node (boot_o_1 P) (.node (dPre 16 17 (eD P "__name__" 165 (vS "postkeep.errors" 194)) (kO 3 P)) (.node (boot_o_7 P) (.node (kO 15 P) (.node eO (.node pO .nil .nil) (.node (kO 95 P) .nil .nil)) (.node (kO 47 P) (.node (cO "SetFault" 270 271 272 18 77 181 78 273 274) .nil .nil) (.node pO .nil .nil))) (.node pO (.node (kO 39 P) (.node (kO 71 P) .nil .nil) (.node (cO "StoreFault" 302 303 304 22 101 181 102 305 306) .nil .nil)) (.node (cO "WordFault" 238 239 240 14 53 181 54 241 242) (.node pO .nil .nil) (.node (kO 119 P) .nil .nil)))) (.node tO (.node (fT (kO 21 P)) (.node (kO 35 P) (.node (cO "MimeFault" 254 255 256 16 65 181 66 257 258) .nil .nil) (.node pO .nil .nil)) (.node pO (.node (kO 83 P) .nil .nil) (.node (cO "QueryFault" 318 319 320 24 113 181 114 321 322) .nil .nil))) (.node (cO "PostError" 198 199 200 5 25 181 26 201 202) (.node (kO 43 P) (.node pO .nil .nil) (.node (kO 107 P) .nil .nil)) (.node (kO 59 P) (.node (cO "WireFault" 286 287 288 20 89 181 90 289 290) .nil .nil) .nil)))) (.node (boot_o_5 P) (.node (boot_o_9 P) (.node (kO 17 P) (.node (kO 33 P) (.node tO .nil .nil) (.node (iO 95) .nil .nil)) (.node (iO 46) (.node (kO 81 P) .nil .nil) (.node tO .nil .nil))) (.node tO (.node (fT (kO 43 P)) (.node (iO 71) .nil .nil) (.node (kO 105 P) .nil .nil)) (.node (kO 57 P) (.node tO .nil .nil) (.node (iO 119) .nil .nil)))) (.node (cO "<module>" 182 183 184 1 11 181 12 185 186) (.node (kO 21 P) (.node (kO 37 P) (.node (kO 69 P) .nil .nil) (.node tO .nil .nil)) (.node tO (.node (iO 83) .nil .nil) (.node (kO 117 P) .nil .nil))) (.node (kO 29 P) (.node (kO 45 P) (.node tO .nil .nil) (.node (iO 107) .nil .nil)) (.node (iO 59) (.node (kO 93 P) .nil .nil) .nil))))) (.node (kO 2 P) (.node (boot_o_4 P) (.node (boot_o_8 P) (.node eO (.node (kO 32 P) (.node (o64 P) .nil .nil) (.node (uO 95) .nil .nil)) (.node (uO 46) (.node (rO 79 76 "postkeep.errors" 194) .nil .nil) (.node (o112 P) .nil .nil))) (.node (o24 P) (.node (kO 40 P) (.node (uO 71) .nil .nil) (.node (rO 103 100 "postkeep.errors" 194) .nil .nil)) (.node (rO 55 52 "postkeep.errors" 194) (.node (o88 P) .nil .nil) (.node (uO 119) .nil .nil)))) (.node (fPre 24 o12) (.node (kO 20 P) (.node (kO 36 P) (.node (rO 67 64 "postkeep.errors" 194) .nil .nil) (.node (o100 P) .nil .nil)) (.node (o52 P) (.node (uO 83) .nil .nil) (.node (rO 115 112 "postkeep.errors" 194) .nil .nil))) (.node (rO 27 24 "postkeep.errors" 194) (.node (kO 44 P) (.node (o76 P) .nil .nil) (.node (uO 107) .nil .nil)) (.node (uO 59) (.node (rO 91 88 "postkeep.errors" 194) .nil .nil) .nil)))) (.node (boot_o_6 P) (.node (boot_o_10 P) (.node (kO 18 P) (.node (fT (kO 36 P)) (.node eO .nil .nil) (.node (kO 98 P) .nil .nil)) (.node (kO 50 P) (.node (kO 82 P) .nil .nil) (.node eO .nil .nil))) (.node o26 (.node (kO 42 P) (.node (kO 74 P) .nil .nil) (.node (kO 106 P) .nil .nil)) (.node (kO 58 P) (.node eO .nil .nil) .nil))) (.node (rO 13 3 "__main__" 164) (.node (kO 22 P) (.node eO (.node (kO 70 P) .nil .nil) (.node eO .nil .nil)) (.node eO (.node (kO 86 P) .nil .nil) (.node (kO 118 P) .nil .nil))) (.node (kO 30 P) (.node (kO 46 P) (.node eO .nil .nil) (.node (kO 110 P) .nil .nil)) (.node (kO 62 P) (.node (kO 94 P) .nil .nil) .nil))))))
noncomputable abbrev S1 (w : World) (os : OsState) : SharedT := { tree := t1 w.params, n := 122, life := {}, gens := #[], drawn := {}, toks := 332, os := os }
noncomputable def q1 : Pos := { line := 24, col := 0, endLine := 25, endCol := 8 }
noncomputable def t2 (P : Params) : BT := (.node (boot_o_0 P) (.node (boot_o_1 P) (.node (dPre 77 78 (eD P "__name__" 165 (vS "postkeep.query" 587)) (kO 3 P)) (.node (boot_o_7 P) (.node (kO 15 P) (.node eO (.node pO (.node (kO 127 P) (.node eO .nil .nil) (.node (kO 383 P) .nil .nil)) (.node (kO 191 P) (.node (kO 319 P) .nil .nil) .nil)) (.node (kO 95 P) (.node (kO 159 P) (.node (kO 287 P) .nil .nil) .nil) (.node eO (.node (kO 351 P) .nil .nil) .nil))) (.node (kO 47 P) (.node (cO "SetFault" 270 271 272 18 77 181 78 273 274) (.node (kO 143 P) (.node (kO 271 P) .nil .nil) .nil) (.node (kO 207 P) (.node eO .nil .nil) .nil)) (.node pO (.node (kO 175 P) (.node (fT (kO 305 P)) .nil .nil) .nil) (.node (kO 239 P) (.node (kO 367 P) .nil .nil) .nil)))) (.node pO (.node (kO 39 P) (.node (kO 71 P) (.node (kO 135 P) (.node (kO 263 P) .nil .nil) .nil) (.node eO (.node (kO 327 P) .nil .nil) .nil)) (.node (cO "StoreFault" 302 303 304 22 101 181 102 305 306) (.node (fT (kO 169 P)) (.node (kO 295 P) .nil .nil) .nil) (.node (kO 231 P) (.node (fT (kO 361 P)) .nil .nil) .nil))) (.node (cO "WordFault" 238 239 240 14 53 181 54 241 242) (.node pO (.node (kO 151 P) (.node eO .nil .nil) .nil) (.node (kO 215 P) (.node (kO 343 P) .nil .nil) .nil)) (.node (kO 119 P) (.node (kO 183 P) (.node (kO 311 P) .nil .nil) .nil) (.node (kO 247 P) (.node (kO 375 P) .nil .nil) .nil))))) (.node tO (.node (fT (kO 21 P)) (.node (kO 35 P) (.node (cO "MimeFault" 254 255 256 16 65 181 66 257 258) (.node (kO 131 P) (.node (kO 259 P) .nil .nil) (.node (fT (kO 389 P)) .nil .nil)) (.node (fT (kO 197 P)) (.node (kO 323 P) .nil .nil) .nil)) (.node pO (.node (kO 163 P) (.node (kO 291 P) .nil .nil) .nil) (.node (kO 227 P) (.node (kO 355 P) .nil .nil) .nil))) (.node pO (.node (kO 83 P) (.node (kO 147 P) (.node (fT (kO 277 P)) .nil .nil) .nil) (.node (kO 211 P) (.node (kO 339 P) .nil .nil) .nil)) (.node (cO "QueryFault" 318 319 320 24 113 181 114 321 322) (.node (kO 179 P) (.node eO .nil .nil) .nil) (.node (kO 243 P) (.node (kO 371 P) .nil .nil) .nil)))) (.node (cO "PostError" 198 199 200 5 25 181 26 201 202) (.node (kO 43 P) (.node pO (.node (kO 139 P) (.node (kO 267 P) .nil .nil) .nil) (.node (kO 203 P) (.node (fT (kO 333 P)) .nil .nil) .nil)) (.node (kO 107 P) (.node eO (.node (kO 299 P) .nil .nil) .nil) (.node (kO 235 P) (.node eO .nil .nil) .nil))) (.node (kO 59 P) (.node (cO "WireFault" 286 287 288 20 89 181 90 289 290) (.node (kO 155 P) (.node (kO 283 P) .nil .nil) .nil) (.node (fT (kO 221 P)) (.node (kO 347 P) .nil .nil) .nil)) (.node eO (.node (kO 187 P) (.node (kO 315 P) .nil .nil) .nil) (.node (fT (kO 253 P)) (.node (kO 379 P) .nil .nil) .nil)))))) (.node (boot_o_5 P) (.node (boot_o_9 P) (.node (kO 17 P) (.node (kO 33 P) (.node tO (.node (kO 129 P) (.node (kO 257 P) .nil .nil) (.node (kO 385 P) .nil .nil)) (.node (kO 193 P) (.node eO .nil .nil) .nil)) (.node (iO 95) (.node (kO 161 P) (.node (fT (kO 291 P)) .nil .nil) .nil) (.node (kO 225 P) (.node (kO 353 P) .nil .nil) .nil))) (.node (iO 46) (.node (kO 81 P) (.node eO (.node (kO 273 P) .nil .nil) .nil) (.node (fT (kO 211 P)) (.node (kO 337 P) .nil .nil) .nil)) (.node tO (.node (kO 177 P) (.node (kO 305 P) .nil .nil) .nil) (.node eO (.node (kO 369 P) .nil .nil) .nil)))) (.node tO (.node (fT (kO 43 P)) (.node (iO 71) (.node eO (.node eO .nil .nil) .nil) (.node (kO 201 P) (.node (kO 329 P) .nil .nil) .nil)) (.node (kO 105 P) (.node (kO 169 P) (.node (kO 297 P) .nil .nil) .nil) (.node (kO 233 P) (.node (kO 361 P) .nil .nil) .nil))) (.node (kO 57 P) (.node tO (.node (fT (kO 155 P)) (.node (kO 281 P) .nil .nil) .nil) (.node (kO 217 P) (.node (fT (kO 347 P)) .nil .nil) .nil)) (.node (iO 119) (.node eO (.node (kO 313 P) .nil .nil) .nil) (.node (kO 249 P) (.node eO .nil .nil) .nil))))) (.node (cO "<module>" 182 183 184 1 11 181 12 185 186) (.node (kO 21 P) (.node (kO 37 P) (.node (kO 69 P) (.node (fT (kO 135 P)) (.node (fT (kO 263 P)) .nil .nil) (.node (kO 389 P) .nil .nil)) (.node (kO 197 P) (.node (kO 325 P) .nil .nil) .nil)) (.node tO (.node (kO 165 P) (.node eO .nil .nil) .nil) (.node (fT (kO 231 P)) (.node (kO 357 P) .nil .nil) .nil))) (.node tO (.node (iO 83) (.node (kO 149 P) (.node (kO 277 P) .nil .nil) .nil) (.node eO (.node (kO 341 P) .nil .nil) .nil)) (.node (kO 117 P) (.node (fT (kO 183 P)) (.node (kO 309 P) .nil .nil) .nil) (.node (kO 245 P) (.node (fT (kO 375 P)) .nil .nil) .nil)))) (.node (kO 29 P) (.node (kO 45 P) (.node tO (.node (kO 141 P) (.node (kO 269 P) .nil .nil) .nil) (.node (kO 205 P) (.node (kO 333 P) .nil .nil) .nil)) (.node (iO 107) (.node (kO 173 P) (.node (kO 301 P) .nil .nil) .nil) (.node (fT (kO 239 P)) (.node (kO 365 P) .nil .nil) .nil))) (.node (iO 59) (.node (kO 93 P) (.node eO (.node (kO 285 P) .nil .nil) .nil) (.node (kO 221 P) (.node eO .nil .nil) .nil)) (.node (kO 125 P) (.node (kO 189 P) (.node (fT (kO 319 P)) .nil .nil) .nil) (.node (kO 253 P) (.node (kO 381 P) .nil .nil) .nil))))))) (.node (kO 2 P) (.node (boot_o_4 P) (.node (boot_o_8 P) (.node eO (.node (kO 32 P) (.node (o64 P) (.node (kO 128 P) (.node (fT (kO 258 P)) .nil .nil) (.node eO .nil .nil)) (.node eO (.node (kO 320 P) .nil .nil) .nil)) (.node (uO 95) (.node (fT (kO 162 P)) (.node (kO 288 P) .nil .nil) .nil) (.node (fT (kO 226 P)) (.node (fT (kO 354 P)) .nil .nil) .nil))) (.node (uO 46) (.node (rO 79 76 "postkeep.errors" 194) (.node (kO 144 P) (.node eO .nil .nil) .nil) (.node (kO 208 P) (.node (kO 336 P) .nil .nil) .nil)) (.node (o112 P) (.node (kO 176 P) (.node (kO 304 P) .nil .nil) .nil) (.node (kO 240 P) (.node (kO 368 P) .nil .nil) .nil)))) (.node (o24 P) (.node (kO 40 P) (.node (uO 71) (.node (kO 136 P) (.node (kO 264 P) .nil .nil) .nil) (.node (kO 200 P) (.node eO .nil .nil) .nil)) (.node (rO 103 100 "postkeep.errors" 194) (.node (kO 168 P) (.node (fT (kO 298 P)) .nil .nil) .nil) (.node (kO 232 P) (.node (kO 360 P) .nil .nil) .nil))) (.node (rO 55 52 "postkeep.errors" 194) (.node (o88 P) (.node eO (.node (kO 280 P) .nil .nil) .nil) (.node (kO 216 P) (.node (kO 344 P) .nil .nil) .nil)) (.node (uO 119) (.node (kO 184 P) (.node (kO 312 P) .nil .nil) .nil) (.node eO (.node (kO 376 P) .nil .nil) .nil))))) (.node (fPre 144 o12) (.node (kO 20 P) (.node (kO 36 P) (.node (rO 67 64 "postkeep.errors" 194) (.node (kO 132 P) (.node eO .nil .nil) (.node (kO 388 P) .nil .nil)) (.node (kO 196 P) (.node (fT (kO 326 P)) .nil .nil) .nil)) (.node (o100 P) (.node eO (.node (kO 292 P) .nil .nil) .nil) (.node eO (.node eO .nil .nil) .nil))) (.node (o52 P) (.node (uO 83) (.node (fT (kO 150 P)) (.node (kO 276 P) .nil .nil) .nil) (.node (kO 212 P) (.node (kO 340 P) .nil .nil) .nil)) (.node (rO 115 112 "postkeep.errors" 194) (.node (kO 180 P) (.node (kO 308 P) .nil .nil) .nil) (.node (fT (kO 246 P)) (.node (kO 372 P) .nil .nil) .nil)))) (.node (rO 27 24 "postkeep.errors" 194) (.node (kO 44 P) (.node (o76 P) (.node (fT (kO 142 P)) (.node (fT (kO 270 P)) .nil .nil) .nil) (.node (kO 204 P) (.node (kO 332 P) .nil .nil) .nil)) (.node (uO 107) (.node (kO 172 P) (.node eO .nil .nil) .nil) (.node (kO 236 P) (.node (kO 364 P) .nil .nil) .nil))) (.node (uO 59) (.node (rO 91 88 "postkeep.errors" 194) (.node (kO 156 P) (.node (kO 284 P) .nil .nil) .nil) (.node (kO 220 P) (.node (kO 348 P) .nil .nil) .nil)) (.node (kO 124 P) (.node (fT (kO 190 P)) (.node (kO 316 P) .nil .nil) .nil) (.node (kO 252 P) (.node (fT (kO 382 P)) .nil .nil) .nil)))))) (.node (boot_o_6 P) (.node (boot_o_10 P) (.node (kO 18 P) (.node (fT (kO 36 P)) (.node eO (.node eO (.node (kO 258 P) .nil .nil) (.node (kO 386 P) .nil .nil)) (.node (kO 194 P) (.node (kO 322 P) .nil .nil) .nil)) (.node (kO 98 P) (.node (kO 162 P) (.node (kO 290 P) .nil .nil) .nil) (.node (kO 226 P) (.node (kO 354 P) .nil .nil) .nil))) (.node (kO 50 P) (.node (kO 82 P) (.node (kO 146 P) (.node (kO 274 P) .nil .nil) .nil) (.node (kO 210 P) (.node (fT (kO 340 P)) .nil .nil) .nil)) (.node eO (.node eO (.node (kO 306 P) .nil .nil) .nil) (.node (kO 242 P) (.node eO .nil .nil) .nil)))) (.node o26 (.node (kO 42 P) (.node (kO 74 P) (.node (kO 138 P) (.node (kO 266 P) .nil .nil) .nil) (.node (fT (kO 204 P)) (.node (kO 330 P) .nil .nil) .nil)) (.node (kO 106 P) (.node (kO 170 P) (.node (kO 298 P) .nil .nil) .nil) (.node eO (.node (kO 362 P) .nil .nil) .nil))) (.node (kO 58 P) (.node eO (.node (kO 154 P) (.node (fT (kO 284 P)) .nil .nil) .nil) (.node eO (.node (kO 346 P) .nil .nil) .nil)) (.node (kO 122 P) (.node (kO 186 P) (.node eO .nil .nil) .nil) (.node (kO 250 P) (.node (kO 378 P) .nil .nil) .nil))))) (.node (rO 13 3 "__main__" 164) (.node (kO 22 P) (.node eO (.node (kO 70 P) (.node (kO 134 P) (.node (kO 262 P) .nil .nil) .nil) (.node (kO 198 P) (.node (kO 326 P) .nil .nil) .nil)) (.node eO (.node (kO 166 P) (.node (kO 294 P) .nil .nil) .nil) (.node (kO 230 P) (.node (kO 358 P) .nil .nil) .nil))) (.node eO (.node (kO 86 P) (.node (kO 150 P) (.node (kO 278 P) .nil .nil) .nil) (.node (fT (kO 216 P)) (.node eO .nil .nil) .nil)) (.node (kO 118 P) (.node (kO 182 P) (.node (fT (kO 312 P)) .nil .nil) .nil) (.node (kO 246 P) (.node (kO 374 P) .nil .nil) .nil)))) (.node (kO 30 P) (.node (kO 46 P) (.node eO (.node (kO 142 P) (.node (kO 270 P) .nil .nil) .nil) (.node eO (.node (kO 334 P) .nil .nil) .nil)) (.node (kO 110 P) (.node (fT (kO 176 P)) (.node (kO 302 P) .nil .nil) .nil) (.node (kO 238 P) (.node (fT (kO 368 P)) .nil .nil) .nil))) (.node (kO 62 P) (.node (kO 94 P) (.node (kO 158 P) (.node eO .nil .nil) .nil) (.node (kO 222 P) (.node (kO 350 P) .nil .nil) .nil)) (.node (fT (kO 128 P)) (.node (kO 190 P) (.node (kO 318 P) .nil .nil) .nil) (.node (kO 254 P) (.node (kO 382 P) .nil .nil) .nil))))))))
noncomputable abbrev S2 (w : World) (os : OsState) : SharedT := { tree := t2 w.params, n := 390, life := {}, gens := #[], drawn := {}, toks := 724, os := os }
noncomputable def q2 : Pos := { line := 294, col := 0, endLine := 299, endCol := 15 }
noncomputable def tF (P : Params) : BT := (.node (boot_o_0 P) (.node (boot_o_1 P) (.node (kO 3 P) (.node (boot_o_7 P) (.node (kO 15 P) (.node eO (.node pO (.node (kO 127 P) (.node eO (.node eO .nil .nil) .nil) (.node (kO 383 P) (.node (kO 639 P) .nil .nil) .nil)) (.node (kO 191 P) (.node (kO 319 P) (.node (kO 575 P) .nil .nil) .nil) (.node eO (.node eO .nil .nil) .nil))) (.node (kO 95 P) (.node (kO 159 P) (.node (kO 287 P) (.node (kO 543 P) .nil .nil) .nil) (.node (fT (kO 417 P)) (.node (kO 671 P) .nil .nil) .nil)) (.node eO (.node (kO 351 P) (.node (kO 607 P) .nil .nil) .nil) (.node (kO 479 P) .nil .nil)))) (.node (kO 47 P) (.node (cO "SetFault" 270 271 272 18 77 181 78 273 274) (.node (kO 143 P) (.node (kO 271 P) (.node (kO 527 P) .nil .nil) .nil) (.node (kO 399 P) (.node (kO 655 P) .nil .nil) .nil)) (.node (kO 207 P) (.node eO (.node (fT (kO 593 P)) .nil .nil) .nil) (.node (kO 463 P) .nil .nil))) (.node pO (.node (kO 175 P) (.node (fT (kO 305 P)) (.node (kO 559 P) .nil .nil) .nil) (.node (iO 427) (.node (fT (kO 689 P)) .nil .nil) .nil)) (.node (kO 239 P) (.node (kO 367 P) (.node eO .nil .nil) .nil) (.node (kO 495 P) .nil .nil))))) (.node pO (.node (kO 39 P) (.node (kO 71 P) (.node (kO 135 P) (.node (kO 263 P) (.node (kO 519 P) .nil .nil) .nil) (.node eO (.node (fT (kO 649 P)) .nil .nil) .nil)) (.node eO (.node (kO 327 P) (.node (kO 583 P) .nil .nil) .nil) (.node (kO 455 P) .nil .nil))) (.node (cO "StoreFault" 302 303 304 22 101 181 102 305 306) (.node (fT (kO 169 P)) (.node (kO 295 P) (.node (kO 551 P) .nil .nil) .nil) (.node (kO 423 P) (.node eO .nil .nil) .nil)) (.node (kO 231 P) (.node (fT (kO 361 P)) (.node (kO 615 P) .nil .nil) .nil) (.node (rO 486 483 "postkeep.wire" 747) .nil .nil)))) (.node (cO "WordFault" 238 239 240 14 53 181 54 241 242) (.node pO (.node (kO 151 P) (.node eO (.node (fT (kO 537 P)) .nil .nil) .nil) (.node tO (.node (kO 663 P) .nil .nil) .nil)) (.node (kO 215 P) (.node (kO 343 P) (.node (kO 599 P) .nil .nil) .nil) (.node (fT (kO 473 P)) .nil .nil))) (.node (kO 119 P) (.node (kO 183 P) (.node (kO 311 P) (.node eO .nil .nil) .nil) (.node (kO 439 P) (.node (kO 695 P) .nil .nil) .nil)) (.node (kO 247 P) (.node (kO 375 P) (.node (kO 631 P) .nil .nil) .nil) (.node (kO 503 P) .nil .nil)))))) (.node tO (.node (fT (kO 21 P)) (.node (kO 35 P) (.node (cO "MimeFault" 254 255 256 16 65 181 66 257 258) (.node (kO 131 P) (.node (kO 259 P) (.node (kO 515 P) .nil .nil) .nil) (.node (fT (kO 389 P)) (.node (kO 643 P) .nil .nil) .nil)) (.node (fT (kO 197 P)) (.node (kO 323 P) (.node (kO 579 P) .nil .nil) .nil) (.node (kO 451 P) (.node (kO 707 P) .nil .nil) .nil))) (.node pO (.node (kO 163 P) (.node (kO 291 P) (.node (kO 547 P) .nil .nil) .nil) (.node eO (.node (fT (kO 677 P)) .nil .nil) .nil)) (.node (kO 227 P) (.node (kO 355 P) (.node (kO 611 P) .nil .nil) .nil) (.node (o483 P) .nil .nil)))) (.node pO (.node (kO 83 P) (.node (kO 147 P) (.node (fT (kO 277 P)) (.node (kO 531 P) .nil .nil) .nil) (.node (kO 403 P) (.node (kO 659 P) .nil .nil) .nil)) (.node (kO 211 P) (.node (kO 339 P) (.node eO .nil .nil) .nil) (.node (kO 467 P) .nil .nil))) (.node (cO "QueryFault" 318 319 320 24 113 181 114 321 322) (.node (kO 179 P) (.node eO (.node (fT (kO 565 P)) .nil .nil) .nil) (.node (kO 435 P) (.node eO .nil .nil) .nil)) (.node (kO 243 P) (.node (kO 371 P) (.node (kO 627 P) .nil .nil) .nil) (.node (kO 499 P) .nil .nil))))) (.node (cO "PostError" 198 199 200 5 25 181 26 201 202) (.node (kO 43 P) (.node pO (.node (kO 139 P) (.node (kO 267 P) (.node (kO 523 P) .nil .nil) .nil) (.node (kO 395 P) (.node eO .nil .nil) .nil)) (.node (kO 203 P) (.node (fT (kO 333 P)) (.node (kO 587 P) .nil .nil) .nil) (.node (kO 459 P) .nil .nil))) (.node (kO 107 P) (.node eO (.node (kO 299 P) (.node (kO 555 P) .nil .nil) .nil) (.node (kO 427 P) (.node (kO 683 P) .nil .nil) .nil)) (.node (kO 235 P) (.node eO (.node (fT (kO 621 P)) .nil .nil) .nil) (.node (kO 491 P) .nil .nil)))) (.node (kO 59 P) (.node (cO "WireFault" 286 287 288 20 89 181 90 289 290) (.node (kO 155 P) (.node (kO 283 P) (.node eO .nil .nil) .nil) (.node (kO 411 P) (.node (kO 667 P) .nil .nil) .nil)) (.node (fT (kO 221 P)) (.node (kO 347 P) (.node (kO 603 P) .nil .nil) .nil) (.node eO .nil .nil))) (.node eO (.node (kO 187 P) (.node (kO 315 P) (.node (kO 571 P) .nil .nil) .nil) (.node (fT (kO 445 P)) (.node (fT (kO 701 P)) .nil .nil) .nil)) (.node (fT (kO 253 P)) (.node (kO 379 P) (.node (kO 635 P) .nil .nil) .nil) (.node (fT (kO 509 P)) .nil .nil))))))) (.node (boot_o_5 P) (.node (boot_o_9 P) (.node (kO 17 P) (.node (kO 33 P) (.node tO (.node (kO 129 P) (.node (kO 257 P) (.node (kO 513 P) .nil .nil) .nil) (.node (kO 385 P) (.node (kO 641 P) .nil .nil) .nil)) (.node (kO 193 P) (.node eO (.node (fT (kO 579 P)) .nil .nil) .nil) (.node (kO 449 P) (.node (kO 705 P) .nil .nil) .nil))) (.node (iO 95) (.node (kO 161 P) (.node (fT (kO 291 P)) (.node (kO 545 P) .nil .nil) .nil) (.node (kO 417 P) (.node (kO 673 P) .nil .nil) .nil)) (.node (kO 225 P) (.node (kO 353 P) (.node eO .nil .nil) .nil) (.node tO .nil .nil)))) (.node (iO 46) (.node (kO 81 P) (.node eO (.node (kO 273 P) (.node (kO 529 P) .nil .nil) .nil) (.node (fT (kO 403 P)) (.node eO .nil .nil) .nil)) (.node (fT (kO 211 P)) (.node (kO 337 P) (.node (kO 593 P) .nil .nil) .nil) (.node (kO 465 P) .nil .nil))) (.node tO (.node (kO 177 P) (.node (kO 305 P) (.node (kO 561 P) .nil .nil) .nil) (.node eO (.node (kO 689 P) .nil .nil) .nil)) (.node eO (.node (kO 369 P) (.node (kO 625 P) .nil .nil) .nil) (.node eO .nil .nil))))) (.node tO (.node (fT (kO 43 P)) (.node (iO 71) (.node eO (.node eO (.node (fT (kO 523 P)) .nil .nil) .nil) (.node (kO 393 P) (.node (kO 649 P) .nil .nil) .nil)) (.node (kO 201 P) (.node (kO 329 P) (.node (kO 585 P) .nil .nil) .nil) (.node (fT (kO 459 P)) .nil .nil))) (.node (kO 105 P) (.node (kO 169 P) (.node (kO 297 P) (.node eO .nil .nil) .nil) (.node (kO 425 P) (.node (kO 681 P) .nil .nil) .nil)) (.node (kO 233 P) (.node (kO 361 P) (.node (kO 617 P) .nil .nil) .nil) (.node (kO 489 P) .nil .nil)))) (.node (kO 57 P) (.node tO (.node (fT (kO 155 P)) (.node (kO 281 P) (.node (kO 537 P) .nil .nil) .nil) (.node (cO "Atom" 765 766 767 333 407 181 408 768 769) (.node (kO 665 P) .nil .nil) .nil)) (.node (kO 217 P) (.node (fT (kO 347 P)) (.node (kO 601 P) .nil .nil) .nil) (.node (kO 473 P) .nil .nil))) (.node (iO 119) (.node eO (.node (kO 313 P) (.node (kO 569 P) .nil .nil) .nil) (.node (kO 441 P) (.node (kO 697 P) .nil .nil) .nil)) (.node (kO 249 P) (.node eO (.node (fT (kO 635 P)) .nil .nil) .nil) (.node (kO 505 P) .nil .nil)))))) (.node (cO "<module>" 182 183 184 1 11 181 12 185 186) (.node (kO 21 P) (.node (kO 37 P) (.node (kO 69 P) (.node (fT (kO 135 P)) (.node (fT (kO 263 P)) (.node (kO 517 P) .nil .nil) .nil) (.node (kO 389 P) (.node (kO 645 P) .nil .nil) .nil)) (.node (kO 197 P) (.node (kO 325 P) (.node eO .nil .nil) .nil) (.node (kO 453 P) .nil .nil))) (.node tO (.node (kO 165 P) (.node eO (.node (fT (kO 551 P)) .nil .nil) .nil) (.node (kO 421 P) (.node (kO 677 P) .nil .nil) .nil)) (.node (fT (kO 231 P)) (.node (kO 357 P) (.node (kO 613 P) .nil .nil) .nil) (.node o485 .nil .nil)))) (.node tO (.node (iO 83) (.node (kO 149 P) (.node (kO 277 P) (.node (kO 533 P) .nil .nil) .nil) (.node pO (.node (kO 661 P) .nil .nil) .nil)) (.node eO (.node (kO 341 P) (.node (kO 597 P) .nil .nil) .nil) (.node (kO 469 P) .nil .nil))) (.node (kO 117 P) (.node (fT (kO 183 P)) (.node (kO 309 P) (.node (kO 565 P) .nil .nil) .nil) (.node (kO 437 P) (.node (kO 693 P) .nil .nil) .nil)) (.node (kO 245 P) (.node (fT (kO 375 P)) (.node (kO 629 P) .nil .nil) .nil) (.node (kO 501 P) .nil .nil))))) (.node (kO 29 P) (.node (kO 45 P) (.node tO (.node (kO 141 P) (.node (kO 269 P) (.node eO .nil .nil) .nil) (.node (kO 397 P) (.node (kO 653 P) .nil .nil) .nil)) (.node (kO 205 P) (.node (kO 333 P) (.node (kO 589 P) .nil .nil) .nil) (.node eO .nil .nil))) (.node (iO 107) (.node (kO 173 P) (.node (kO 301 P) (.node (kO 557 P) .nil .nil) .nil) (.node (kO 429 P) (.node (kO 685 P) .nil .nil) .nil)) (.node (fT (kO 239 P)) (.node (kO 365 P) (.node (kO 621 P) .nil .nil) .nil) (.node (fT (kO 495 P)) .nil .nil)))) (.node (iO 59) (.node (kO 93 P) (.node eO (.node (kO 285 P) (.node (kO 541 P) .nil .nil) .nil) (.node (kO 413 P) (.node (iO 665) .nil .nil) .nil)) (.node (kO 221 P) (.node eO (.node (fT (kO 607 P)) .nil .nil) .nil) (.node (kO 477 P) .nil .nil))) (.node (kO 125 P) (.node (kO 189 P) (.node (fT (kO 319 P)) (.node (kO 573 P) .nil .nil) .nil) (.node (kO 445 P) (.node (kO 701 P) .nil .nil) .nil)) (.node (kO 253 P) (.node (kO 381 P) (.node eO .nil .nil) .nil) (.node (kO 509 P) .nil .nil)))))))) (.node (kO 2 P) (.node (boot_o_4 P) (.node (boot_o_8 P) (.node eO (.node (kO 32 P) (.node (o64 P) (.node (kO 128 P) (.node (fT (kO 258 P)) (.node (kO 512 P) .nil .nil) .nil) (.node eO (.node (fT (kO 642 P)) .nil .nil) .nil)) (.node eO (.node (kO 320 P) (.node (kO 576 P) .nil .nil) .nil) (.node (kO 448 P) (.node (kO 704 P) .nil .nil) .nil))) (.node (uO 95) (.node (fT (kO 162 P)) (.node (kO 288 P) (.node (kO 544 P) .nil .nil) .nil) (.node (kO 416 P) (.node eO .nil .nil) .nil)) (.node (fT (kO 226 P)) (.node (fT (kO 354 P)) (.node (kO 608 P) .nil .nil) .nil) (.node (kO 480 P) .nil .nil)))) (.node (uO 46) (.node (rO 79 76 "postkeep.errors" 194) (.node (kO 144 P) (.node eO (.node (fT (kO 530 P)) .nil .nil) .nil) (.node (kO 400 P) (.node (kO 656 P) .nil .nil) .nil)) (.node (kO 208 P) (.node (kO 336 P) (.node (kO 592 P) .nil .nil) .nil) (.node (fT (kO 466 P)) .nil .nil))) (.node (o112 P) (.node (kO 176 P) (.node (kO 304 P) (.node eO .nil .nil) .nil) (.node (kO 432 P) (.node (kO 688 P) .nil .nil) .nil)) (.node (kO 240 P) (.node (kO 368 P) (.node (kO 624 P) .nil .nil) .nil) (.node (kO 496 P) .nil .nil))))) (.node (o24 P) (.node (kO 40 P) (.node (uO 71) (.node (kO 136 P) (.node (kO 264 P) (.node (kO 520 P) .nil .nil) .nil) (.node (kO 392 P) (.node (kO 648 P) .nil .nil) .nil)) (.node (kO 200 P) (.node eO (.node (fT (kO 586 P)) .nil .nil) .nil) (.node (kO 456 P) .nil .nil))) (.node (rO 103 100 "postkeep.errors" 194) (.node (kO 168 P) (.node (fT (kO 298 P)) (.node (kO 552 P) .nil .nil) .nil) (.node (kO 424 P) (.node (fT (kO 682 P)) .nil .nil) .nil)) (.node (kO 232 P) (.node (kO 360 P) (.node eO .nil .nil) .nil) (.node (kO 488 P) .nil .nil)))) (.node (rO 55 52 "postkeep.errors" 194) (.node (o88 P) (.node eO (.node (kO 280 P) (.node (kO 536 P) .nil .nil) .nil) (.node o408 (.node (kO 664 P) .nil .nil) .nil)) (.node (kO 216 P) (.node (kO 344 P) (.node (kO 600 P) .nil .nil) .nil) (.node (kO 472 P) .nil .nil))) (.node (uO 119) (.node (kO 184 P) (.node (kO 312 P) (.node (kO 568 P) .nil .nil) .nil) (.node eO (.node (kO 696 P) .nil .nil) .nil)) (.node eO (.node (kO 376 P) (.node (kO 632 P) .nil .nil) .nil) (.node eO .nil .nil)))))) (.node o12 (.node (kO 20 P) (.node (kO 36 P) (.node (rO 67 64 "postkeep.errors" 194) (.node (kO 132 P) (.node eO (.node (kO 516 P) .nil .nil) .nil) (.node (kO 388 P) (.node eO .nil .nil) .nil)) (.node (kO 196 P) (.node (fT (kO 326 P)) (.node (kO 580 P) .nil .nil) .nil) (.node (kO 452 P) (.node (kO 708 P) .nil .nil) .nil))) (.node (o100 P) (.node eO (.node (kO 292 P) (.node (kO 548 P) .nil .nil) .nil) (.node (kO 420 P) (.node (kO 676 P) .nil .nil) .nil)) (.node eO (.node eO (.node (fT (kO 614 P)) .nil .nil) .nil) (.node tO .nil .nil)))) (.node (o52 P) (.node (uO 83) (.node (fT (kO 150 P)) (.node (kO 276 P) (.node eO .nil .nil) .nil) (.node tO (.node (fT (kO 662 P)) .nil .nil) .nil)) (.node (kO 212 P) (.node (kO 340 P) (.node (kO 596 P) .nil .nil) .nil) (.node eO .nil .nil))) (.node (rO 115 112 "postkeep.errors" 194) (.node (kO 180 P) (.node (kO 308 P) (.node (kO 564 P) .nil .nil) .nil) (.node (fT (kO 438 P)) (.node (kO 692 P) .nil .nil) .nil)) (.node (fT (kO 246 P)) (.node (kO 372 P) (.node (kO 628 P) .nil .nil) .nil) (.node (fT (kO 502 P)) .nil .nil))))) (.node (rO 27 24 "postkeep.errors" 194) (.node (kO 44 P) (.node (o76 P) (.node (fT (kO 142 P)) (.node (fT (kO 270 P)) (.node (kO 524 P) .nil .nil) .nil) (.node (kO 396 P) (.node (fT (kO 654 P)) .nil .nil) .nil)) (.node (kO 204 P) (.node (kO 332 P) (.node eO .nil .nil) .nil) (.node (kO 460 P) .nil .nil))) (.node (uO 107) (.node (kO 172 P) (.node eO (.node (fT (kO 558 P)) .nil .nil) .nil) (.node (kO 428 P) (.node eO .nil .nil) .nil)) (.node (kO 236 P) (.node (kO 364 P) (.node (kO 620 P) .nil .nil) .nil) (.node (kO 492 P) .nil .nil)))) (.node (uO 59) (.node (rO 91 88 "postkeep.errors" 194) (.node (kO 156 P) (.node (kO 284 P) (.node (kO 540 P) .nil .nil) .nil) (.node eO (.node (uO 665) .nil .nil) .nil)) (.node (kO 220 P) (.node (kO 348 P) (.node (kO 604 P) .nil .nil) .nil) (.node (kO 476 P) .nil .nil))) (.node (kO 124 P) (.node (fT (kO 190 P)) (.node (kO 316 P) (.node (kO 572 P) .nil .nil) .nil) (.node (kO 444 P) (.node (kO 700 P) .nil .nil) .nil)) (.node (kO 252 P) (.node (fT (kO 382 P)) (.node (kO 636 P) .nil .nil) .nil) (.node (kO 508 P) .nil .nil))))))) (.node (boot_o_6 P) (.node (boot_o_10 P) (.node (kO 18 P) (.node (fT (kO 36 P)) (.node eO (.node eO (.node (kO 258 P) (.node (fT (kO 516 P)) .nil .nil) .nil) (.node (kO 386 P) (.node (kO 642 P) .nil .nil) .nil)) (.node (kO 194 P) (.node (kO 322 P) (.node (kO 578 P) .nil .nil) .nil) (.node (fT (kO 452 P)) (.node (fT (kO 708 P)) .nil .nil) .nil))) (.node (kO 98 P) (.node (kO 162 P) (.node (kO 290 P) (.node eO .nil .nil) .nil) (.node (kO 418 P) (.node (kO 674 P) .nil .nil) .nil)) (.node (kO 226 P) (.node (kO 354 P) (.node (kO 610 P) .nil .nil) .nil) (.node pO .nil .nil)))) (.node (kO 50 P) (.node (kO 82 P) (.node (kO 146 P) (.node (kO 274 P) (.node (kO 530 P) .nil .nil) .nil) (.node (kO 402 P) (.node (kO 658 P) .nil .nil) .nil)) (.node (kO 210 P) (.node (fT (kO 340 P)) (.node (kO 594 P) .nil .nil) .nil) (.node (kO 466 P) .nil .nil))) (.node eO (.node eO (.node (kO 306 P) (.node (kO 562 P) .nil .nil) .nil) (.node (kO 434 P) (.node (kO 690 P) .nil .nil) .nil)) (.node (kO 242 P) (.node eO (.node (fT (kO 628 P)) .nil .nil) .nil) (.node (kO 498 P) .nil .nil))))) (.node o26 (.node (kO 42 P) (.node (kO 74 P) (.node (kO 138 P) (.node (kO 266 P) (.node (kO 522 P) .nil .nil) .nil) (.node (fT (kO 396 P)) (.node (kO 650 P) .nil .nil) .nil)) (.node (fT (kO 204 P)) (.node (kO 330 P) (.node (kO 586 P) .nil .nil) .nil) (.node (kO 458 P) .nil .nil))) (.node (kO 106 P) (.node (kO 170 P) (.node (kO 298 P) (.node (kO 554 P) .nil .nil) .nil) (.node (kO 426 P) (.node (kO 682 P) .nil .nil) .nil)) (.node eO (.node (kO 362 P) (.node (kO 618 P) .nil .nil) .nil) (.node eO .nil .nil)))) (.node (kO 58 P) (.node eO (.node (kO 154 P) (.node (fT (kO 284 P)) (.node (kO 538 P) .nil .nil) .nil) (.node (rO 409 406 "postkeep.wire" 747) (.node (kO 666 P) .nil .nil) .nil)) (.node eO (.node (kO 346 P) (.node eO .nil .nil) .nil) (.node (kO 474 P) .nil .nil))) (.node (kO 122 P) (.node (kO 186 P) (.node eO (.node (fT (kO 572 P)) .nil .nil) .nil) (.node (kO 442 P) (.node eO .nil .nil) .nil)) (.node (kO 250 P) (.node (kO 378 P) (.node (kO 634 P) .nil .nil) .nil) (.node (kO 506 P) .nil .nil)))))) (.node (rO 13 3 "__main__" 164) (.node (kO 22 P) (.node eO (.node (kO 70 P) (.node (kO 134 P) (.node (kO 262 P) (.node eO .nil .nil) .nil) (.node (kO 390 P) (.node (kO 646 P) .nil .nil) .nil)) (.node (kO 198 P) (.node (kO 326 P) (.node (kO 582 P) .nil .nil) .nil) (.node eO .nil .nil))) (.node eO (.node (kO 166 P) (.node (kO 294 P) (.node (kO 550 P) .nil .nil) .nil) (.node (fT (kO 424 P)) (.node (kO 678 P) .nil .nil) .nil)) (.node (kO 230 P) (.node (kO 358 P) (.node (kO 614 P) .nil .nil) .nil) (.node (cO "Wire" 852 853 854 357 484 181 485 855 856) .nil .nil)))) (.node eO (.node (kO 86 P) (.node (kO 150 P) (.node (kO 278 P) (.node (kO 534 P) .nil .nil) .nil) (.node (o406 P) (.node (kO 662 P) .nil .nil) .nil)) (.node (fT (kO 216 P)) (.node eO (.node (fT (kO 600 P)) .nil .nil) .nil) (.node (kO 470 P) .nil .nil))) (.node (kO 118 P) (.node (kO 182 P) (.node (fT (kO 312 P)) (.node (kO 566 P) .nil .nil) .nil) (.node (kO 438 P) (.node (fT (kO 696 P)) .nil .nil) .nil)) (.node (kO 246 P) (.node (kO 374 P) (.node eO .nil .nil) .nil) (.node (kO 502 P) .nil .nil))))) (.node (kO 30 P) (.node (kO 46 P) (.node eO (.node (kO 142 P) (.node (kO 270 P) (.node (kO 526 P) .nil .nil) .nil) (.node eO (.node (kO 654 P) .nil .nil) .nil)) (.node eO (.node (kO 334 P) (.node (kO 590 P) .nil .nil) .nil) (.node (kO 462 P) .nil .nil))) (.node (kO 110 P) (.node (fT (kO 176 P)) (.node (kO 302 P) (.node (kO 558 P) .nil .nil) .nil) (.node (uO 427) (.node (kO 686 P) .nil .nil) .nil)) (.node (kO 238 P) (.node (fT (kO 368 P)) (.node (kO 622 P) .nil .nil) .nil) (.node (kO 494 P) .nil .nil)))) (.node (kO 62 P) (.node (kO 94 P) (.node (kO 158 P) (.node eO (.node (fT (kO 544 P)) .nil .nil) .nil) (.node (kO 414 P) (.node (kO 670 P) .nil .nil) .nil)) (.node (kO 222 P) (.node (kO 350 P) (.node (kO 606 P) .nil .nil) .nil) (.node (fT (kO 480 P)) .nil .nil))) (.node (fT (kO 128 P)) (.node (kO 190 P) (.node (kO 318 P) (.node eO .nil .nil) .nil) (.node (kO 446 P) (.node (kO 702 P) .nil .nil) .nil)) (.node (kO 254 P) (.node (kO 382 P) (.node (kO 638 P) .nil .nil) .nil) (.node (kO 510 P) .nil .nil)))))))))
noncomputable abbrev SF (w : World) (os : OsState) : SharedT := { tree := tF w.params, n := 709, life := {}, gens := #[], drawn := {}, toks := 1151, os := os }
noncomputable def qF : Pos := { line := 566, col := 0, endLine := 578, endCol := 97 }
/-- where the written part stands -/
noncomputable def aK : List Addr := [2, 3, 15, 17, 18, 20, 21, 22, 29, 30, 32, 33, 35, 36, 37, 39, 40, 42, 43, 44, 45, 46, 47, 50, 57, 58, 59, 62, 69, 70, 71, 74, 81, 82, 83, 86, 93, 94, 95, 98, 105, 106, 107, 110, 117, 118, 119, 122, 124, 125, 127, 128, 129, 131, 132, 134, 135, 136, 138, 139, 141, 142, 143, 144, 146, 147, 149, 150, 151, 154, 155, 156, 158, 159, 161, 162, 163, 165, 166, 168, 169, 170, 172, 173, 175, 176, 177, 179, 180, 182, 183, 184, 186, 187, 189, 190, 191, 193, 194, 196, 197, 198, 200, 201, 203, 204, 205, 207, 208, 210, 211, 212, 215, 216, 217, 220, 221, 222, 225, 226, 227, 230, 231, 232, 233, 235, 236, 238, 239, 240, 242, 243, 245, 246, 247, 249, 250, 252, 253, 254, 257, 258, 259, 262, 263, 264, 266, 267, 269, 270, 271, 273, 274, 276, 277, 278, 280, 281, 283, 284, 285, 287, 288, 290, 291, 292, 294, 295, 297, 298, 299, 301, 302, 304, 305, 306, 308, 309, 311, 312, 313, 315, 316, 318, 319, 320, 322, 323, 325, 326, 327, 329, 330, 332, 333, 334, 336, 337, 339, 340, 341, 343, 344, 346, 347, 348, 350, 351, 353, 354, 355, 357, 358, 360, 361, 362, 364, 365, 367, 368, 369, 371, 372, 374, 375, 376, 378, 379, 381, 382, 383, 385, 386, 388, 389, 390, 392, 393, 395, 396, 397, 399, 400, 402, 403, 411, 413, 414, 416, 417, 418, 420, 421, 423, 424, 425, 426, 427, 428, 429, 432, 434, 435, 437, 438, 439, 441, 442, 444, 445, 446, 448, 449, 451, 452, 453, 455, 456, 458, 459, 460, 462, 463, 465, 466, 467, 469, 470, 472, 473, 474, 476, 477, 479, 480, 488, 489, 491, 492, 494, 495, 496, 498, 499, 501, 502, 503, 505, 506, 508, 509, 510, 512, 513, 515, 516, 517, 519, 520, 522, 523, 524, 526, 527, 529, 530, 531, 533, 534, 536, 537, 538, 540, 541, 543, 544, 545, 547, 548, 550, 551, 552, 554, 555, 557, 558, 559, 561, 562, 564, 565, 566, 568, 569, 571, 572, 573, 575, 576, 578, 579, 580, 582, 583, 585, 586, 587, 589, 590, 592, 593, 594, 596, 597, 599, 600, 601, 603, 604, 606, 607, 608, 610, 611, 613, 614, 615, 617, 618, 620, 621, 622, 624, 625, 627, 628, 629, 631, 632, 634, 635, 636, 638, 639, 641, 642, 643, 645, 646, 648, 649, 650, 653, 654, 655, 656, 658, 659, 661, 662, 663, 664, 665, 666, 667, 670, 671, 673, 674, 676, 677, 678, 681, 682, 683, 685, 686, 688, 689, 690, 692, 693, 695, 696, 697, 700, 701, 702, 704, 705, 707, 708]
end Mine
end
section
open PySem PySem.W PyProof.Rows
set_option Elab.async false
set_option maxRecDepth 100000
set_option maxHeartbeats 8000000
namespace Mine
noncomputable abbrev b0 : List Stmt := behindTheImports P0
noncomputable abbrev b1 : List Stmt := b0.take 9
noncomputable abbrev b2 : List Stmt := (b0.drop 9).take 67
noncomputable abbrev b3 : List Stmt := (b0.drop 9).drop 67
theorem b_parts : b1 ++ (b2 ++ (b3 ++ [])) = b0 := by
  rw [List.append_nil, List.take_append_drop, List.take_append_drop]
/-- the library's own way to run pieces, quick for the kernel -/
noncomputable abbrev runQ (w : World) : Nat → SharedT → Thread → Option (Flow × SharedT × Code × Pos) := PySem.W.Fast.tw10110043849684766642 PySem.W.Fast.tw14364793385576792824 P0 w 11 (some (Value.ref 6)) 1
theorem runQ_eq (w : World) : segRunT treeTable P0 w 11 (some (Value.ref 6)) 1 = runQ w := by
  rw [PySem.W.Fast.te10110043849684766642, PySem.W.Fast.te14364793385576792824]
theorem seg1 (w : World) : (fun os => runQ w 1585 (stT w os) (piecesOf b1 envH codeH q0 [topFrame q0])) = fun os => some (Flow.next, S1 w os, codeH, q1) := by kernel_rfl
theorem seg2 (w : World) : (fun os => runQ w 1458 (S1 w os) (piecesOf b2 envH codeH q1 [topFrame q0])) = fun os => some (Flow.next, S2 w os, codeH, q2) := by kernel_rfl
theorem seg3 (w : World) : (fun os => runQ w 1812 (S2 w os) (piecesOf b3 envH codeH q2 [topFrame q0])) = fun os => some (Flow.next, SF w os, codeH, qE) := by kernel_rfl
theorem fin (w : World) (os : OsState) : topRun treeTable P0 w 11 (some (Value.ref 6)) 2 (SF w os).abs ⟨doneF Flow.next, codeH, qE, [topFrame q0]⟩ = some (SF w os).abs := congrFun (h_fin w) (SF w os).abs
theorem run_all (w : World) (os : OsState) : topRun treeTable P0 w 11 (some (Value.ref 6)) (12 + (1 + (1585 + (1458 + (1812 + 2))))) (s00 w os) (topStub P0) = some (SF w os).abs := by
  have r0 : topRun treeTable P0 w 11 (some (Value.ref 6)) (1585 + (1458 + (1812 + 2))) (stT w os).abs (restOf (b1 ++ (b2 ++ (b3 ++ []))) envH codeH q0 [topFrame q0]) = some (SF w os).abs :=
    piece_app (segRun_of ((congrFun (congrFun (congrFun (runQ_eq w) _) _) _).trans (congrFun (seg1 w) os)))
      (piece_app (segRun_of ((congrFun (congrFun (congrFun (runQ_eq w) _) _) _).trans (congrFun (seg2 w) os)))
        (piece_app (segRun_of ((congrFun (congrFun (congrFun (runQ_eq w) _) _) _).trans (congrFun (seg3 w) os)))
          (piece_nil (fin w os))))
  rw [b_parts] at r0
  exact go_top (congrFun (h_pre w) os) (piece_block (congrFun (h_block w) os) r0)
end Mine
end
section
open PySem PySem.W PyProof.Rows
set_option Elab.async false
set_option maxRecDepth 100000
set_option maxHeartbeats 8000000
namespace Mine
theorem law_quick : PySem.W.Fast.tw9446332074065402090 PySem.Challenge.rw_nz0323_01 = true := by
  delta PySem.W.Fast.tw9446332074065402090 PySem.W.Fast.tw17960256430627541270 PySem.W.Fast.tw2436336058641802641 PySem.W.Fast.tw12908688711261696721
  repeat' (with_reducible refine look_both ?_ ?_)
  all_goals decide +kernel
theorem law_said : PySem.Challenge.rw_nz0323_01.wellSaid = true := (congrFun PySem.W.Fast.te9446332074065402090 _).trans law_quick
/-- the statements that the law reaches -/
noncomputable def vw : Program := view P0 ((List.range 103).filter fun i => !([1, 9, 16, 30, 37, 47, 51, 78, 95].contains i))
noncomputable def lvH : List (Str × WData) := [(Str.ofString "CHARSETS", WData.tuple [WData.str (Str.ofString "us-ascii"), WData.str (Str.ofString "iso-8859-1"), WData.str (Str.ofString "utf-8")])]
noncomputable abbrev LL0 : List Str := [Str.ofString "PostError", Str.ofString "CHARSETS"]
noncomputable abbrev xtH (s : Shared) : Bool := xlAt vw lvH s && recOk (RowW.records (OpenRow.toRowW PySem.Challenge.rw_nz0323_01.row)) s
noncomputable abbrev sA (w : World) (os : OsState) : Shared := ⟨absHeap (tF w.params) 709 {}, #[], {}, 1151, os⟩
theorem k_names (w : World) (os : OsState) : (sA w os).heap.keysOk (looseW vw LL0) ((recsOf vw).map (·.name)) ((litsOf vw).map (·.1)) ((clssOf vw (looseW vw LL0)).map (·.name)) = true := by
  rw [PySem.W.Fast.te10880121769531294198, PySem.W.Fast.te821141287760084731, PySem.W.Fast.te3399658132070893891, PySem.W.Fast.te7409074990110511671, PySem.W.Fast.te13664370479719496447]; kernel_rfl
theorem k_seen (w : World) (os : OsState) : seen ((recsOf vw).map (·.name)) (ownsOf vw) [] { (sA w os) with gens := #[] } = expectedOf vw := by kernel_rfl
theorem k_built (w : World) (os : OsState) : (sA w os).heap.bltView = bltViewBooted := by kernel_rfl
theorem k_top (w : World) (os : OsState) : (staticsOk (importedModules P0.main.body) (boot_heap w.params) (sA w os).heap && namesBound P0 (sA w os).heap && gensDone (sA w os) && laidKept (boot_heap w.params) (sA w os).heap) = true := by kernel_rfl
theorem k_rest (w : World) (os : OsState) : ((sA w os).heap.accountedOkI (importedModules P0.main.body) && (sA w os).heap.isNs mainGlobals && (sA w os).heap.isNs builtinsNs && tablesOk vw (sA w os).heap && xtH (sA w os) && (if true then (sA w os).gens.size == 0 else !leftWithCleanup (sA w os).gens)) = true := by kernel_rfl
theorem k_tabs (w : World) (os : OsState) : tabsOk vw (sA w os) = true := by rw [PySem.W.Fast.te479339242167458305]; kernel_rfl
theorem k_pins (w : World) (os : OsState) : (pinSeenD vw (drecsOf vw) (sA w os), clsSeenW vw LL0 (sA w os)) = (pinGoodD (drecsOf vw), clsGoodW vw LL0) := by kernel_rfl
theorem k_plain (w : World) (os : OsState) : (plainSeenE vw (looseW vw LL0) (sA w os), plainSeenD vw LL0 (sA w os), wideSeen vw (sA w os)) = (plainGoodE vw (looseW vw LL0), plainGoodD vw LL0, wideGood vw) := by
  rw [PySem.W.Fast.te821141287760084731, PySem.W.Fast.te2386780881361962483, PySem.W.Fast.te11698064438423848299, PySem.W.Fast.te7317090234206586261]; kernel_rfl
/-- an object of a tree, as a heap gives it -/
noncomputable def getT (t : BT) (n a : Nat) : Option Obj := @Bool.rec (fun _ => Option Obj) none (alive ((t.get a).getD default)) (Nat.blt a n)
theorem getT_eq (t : BT) (n : Nat) (a : Addr) : (absHeap t n {}).get? a = getT t n a := by
  unfold Heap.get? getT
  rw [absHeap_at]
  by_cases h : a < n
  · rw [if_pos h, (Nat.blt_eq.mpr h : Nat.blt a n = true)]
    generalize (t.get a).getD default = o
    obtain ⟨c, d, x, l⟩ := o
    cases x <;> rfl
  · rw [if_neg h, (Bool.eq_false_iff.mpr (fun x => h (Nat.blt_eq.mp x)) : Nat.blt a n = false)]
theorem k_partT (w : World) : aK.map (getT (tF w.params) 709) = (Mine.laid.heap_1 w.params).map fun p => some p.2 := by kernel_rfl
theorem k_part (w : World) (os : OsState) : aK.map (sA w os).heap.get? = (Mine.laid.heap_1 w.params).map fun p => some p.2 :=
  (List.map_congr_left fun a _ => getT_eq _ _ a).trans (k_partT w)
theorem k_at : ∀ P, aK = (Mine.laid.heap_1 P).map (·.1) := fun _ => by kernel_rfl
noncomputable abbrev hookH : Hook := kHook Mine.laid.heap_1 aK k_at
theorem nine {α β γ δ ε ζ η θ ι : Type} {a a' : α} {b b' : β} {c c' : γ} {d d' : δ} {e e' : ε} {f f' : ζ} {g g' : η} {h h' : θ} {i i' : ι} (x1 : a = a') (x2 : b = b') (x3 : c = c') (x4 : d = d') (x5 : (e, i) = (e', i')) (x6 : (f, g, h) = (f', g', h')) :
    (a, b, c, d, e, f, g, h, i) = (a', b', c', d', e', f', g', h', i') := by
  cases x1; cases x2; cases x3; cases x4; cases x5; cases x6; rfl
theorem and7 {k a b c d e f : Bool} (x : k = true) (y : (a && b && c && d && e && f) = true) : (k && a && b && c && d && e && f) = true := by
  cases x; simpa using y
theorem k_open (w : World) (os : OsState) : openSeen vw LL0 (importedModules P0.main.body) xtH true (sA w os) = openGood vw LL0 := by
  delta openSeen openGood
  exact nine (k_seen w os) (k_built w os) (and7 (k_names w os) (k_rest w os)) (k_tabs w os) (k_pins w os) (k_plain w os)
theorem left_F : LeftO P0 vw LL0 xtH (Hook.obs hookH) (Hook.val hookH) 9830 :=
  LeftO.of_pieces (H₁ := fun P => absHeap (tF P) 709 {}) h_open h_size run_all (by decide) fun w => funext fun os =>
    Prod.ext (k_top w os) (Prod.ext (k_open w os) (k_part w os))
section
local macro_rules | `(tactic| o_law) => `(tactic| refine holds_law Mine.law_said fun said => ?_)
local macro_rules | `(tactic| k_head) => `(tactic| apply holds_open (r := PySem.Challenge.rw_nz0323_01.row) (q := Mine.vw) (loose := Mine.LL0) (Xt := Mine.xtH) (XP := XL Mine.vw Mine.lvH) (Yf := Hook.obs Mine.hookH) (Ya := Hook.val Mine.hookH) (YP := Hook.says Mine.hookH) (N := 9830) Mine.left_F (Hook.of Mine.hookH) (Hook.keeps Mine.hookH) (fun s e => xl_of s (Bool.and_eq_true_iff.mp e).1) XL.keeps (by rfl) (by rfl) (by rfl) (fun s e => recFacts_of (Bool.and_eq_true_iff.mp e).2) (by rfl) (by assumption) (by decide +kernel) ⟨rfl, rfl, rfl, rfl, rfl, by decide +kernel⟩)
open_top hd for PySem.Challenge.rw_nz0323_01
end
end Mine
end
local macro_rules | `(tactic| walk_at $s:str) => `(tactic| k_extra $s)
section
set_option Elab.async false
set_option maxRecDepth 100000
set_option maxHeartbeats 4000000
namespace Mine
open PySem PySem.W PySem.Spec PySem.Calls PyProof.Rows
noncomputable abbrev bareExc (C t : Addr) : Obj := { cls := .ref C, data := .fields #[.ref t, .none, .none, .none, .bool false, .none] }
noncomputable abbrev tupOf (vs : List Value) : Obj := { cls := .type "tuple", data := .seq vs.toArray }
noncomputable def xclsIn (K : Frag) (C : Addr) : Bool := match K.lookup C with
  | some ⟨.type "type", _, .cls cd, sl⟩ => (match cd.mro, sl.toList with
    | .ref C' :: bm, [_, _, _, _, some (.builtin n), _] => C' == C && n == "Exception.__new__" && !cd.hasDel && bm.contains (.type "BaseException") && bm.contains (.type "Exception") && !bm.contains (.type "AttributeError") && !bm.contains (.type "NameError")
    | _, _ => false)
  | _ => false
structure XCls (h : Heap) (C : Addr) : Prop where
  obj : ∃ nm qn N bs bm hdct sn sub ab col dd k0 k1 k2 k3 k5, h.get? C = some (excClassObj nm qn C N bs bm hdct sn sub ab col dd k0 k1 k2 k3 k5 "Exception.__new__") ∧
    bm.contains (.type "BaseException") = true ∧ bm.contains (.type "Exception") = true ∧ bm.contains (.type "AttributeError") = false ∧ bm.contains (.type "NameError") = false
theorem xcls_of {K : Frag} {h : Heap} {C : Addr} (X : K.In h) (q : xclsIn K C = true) : XCls h C := by
  unfold xclsIn at q
  split at q
  · rename_i dd cd sl ho
    split at q
    · rename_i C' bm k0 k1 k2 k3 n k5 hm hs
      simp only [Bool.and_eq_true, beq_iff_eq, Bool.not_eq_true'] at q
      obtain ⟨⟨⟨⟨⟨⟨rfl, rfl⟩, hdel⟩, hb⟩, he⟩, ha⟩, hn⟩ := q
      obtain ⟨nm, bs, mro, ns, qn, hd, sn, sub, ab, col, del⟩ := cd
      dsimp only at hm hdel
      subst hm hdel
      have hsl : sl = #[k0, k1, k2, k3, some (.builtin "Exception.__new__"), k5] := by
        obtain ⟨l⟩ := sl
        simp only at hs
        rw [hs]
      subst hsl
      exact ⟨nm, qn, ns, bs, bm, hd, sn, sub, ab, col, dd, k0, k1, k2, k3, k5, X _ _ ho, hb, he, ha, hn⟩
    · cases q
  · cases q
section
variable {prog : Program} {w : World} {A : Around} {R : Result → Shared → Prop} {E : Value → Shared → Prop} {h : Heap} {g : Array GenState} {d : Drawn} {t : Nat} {os : OsState}
variable {nm q : Str} {C N : Addr} {bs bm : List Value} {hdct : Bool} {sn : List Str} {sub : List Value} {ab : Bool} {col : Option Bool} {dd : Option Addr} {k0 k1 k2 k3 k5 : Option Value}
theorem x_check_new {M : Model} (h1 : bm.contains (.type "Exception") = true) {rest : List Value} {Q : Unit → Shared → Prop} (hC : h.get? C = some (excClassObj nm q C N bs bm hdct sn sub ab col dd k0 k1 k2 k3 k5 "Exception.__new__"))
    (hq : Q () ⟨h, g, d, t, os⟩) : wpAny M A (checkBuiltinCall "Exception.__new__" ⟨.ref C :: rest, []⟩) Q E ⟨h, g, d, t, os⟩ := by
  have F := PySem.F.excBase_Exception
  have hcont : (Value.ref C :: bm).contains (.type "Exception") = true := by rw [List.contains_cons, h1, Bool.or_true]
  have hstar := F.noStar
  simp only [checkBuiltinCall, F.newKind, F.newSplit, F.newRow]
  repeat (first | refine wpAny_loadPart_at hC ?_ | (refine wpAny_isSubtype_exc hC ?_; rw [hcont]) | refine wpAny_staticBase_exc hC ?_ | refine wpAny_madeBy_exc hC ?_ | simp only [bne_self_eq_false, Bool.false_eq_true, if_false] | wp_step)
  exact hq
theorem x_new (h1 : bm.contains (.type "Exception") = true) (h2 : bm.contains (.type "AttributeError") = false) (h3 : bm.contains (.type "NameError") = false) {rest : List Value}
    (hC : h.get? C = some (excClassObj nm q C N bs bm hdct sn sub ab col dd k0 k1 k2 k3 k5 "Exception.__new__"))
    (hq : R (.ok (.ret (.ref (h.objs.size + 1)))) ⟨(h.push (tupOf rest)).push (bareExc C h.objs.size), g, d, t, os⟩) (hrest : rest.length ≤ sizeLine := by size_fits) :
    codeAny (model prog w) A (.builtin "Exception.__new__" ⟨.ref C :: rest, []⟩) R ⟨h, g, d, t, os⟩ := by
  have F := PySem.F.excBase_Exception
  have hends := F.ends
  have hcB : (Value.ref C :: bm).contains (.type "Exception") = true := by rw [List.contains_cons, h1, Bool.or_true]
  have hcA : (Value.ref C :: bm).contains (.type "AttributeError") = false := by rw [List.contains_cons, h2]; rfl
  have hcN : (Value.ref C :: bm).contains (.type "NameError") = false := by rw [List.contains_cons, h3]; rfl
  refine codeAny_builtinAt F.entry ?_
  unfold Builtin.«BaseException.__new__»
  refine PySem.wpAt_bind ?_
  show PySem.wpAt _ _ _ (PySem.stack >>= _) _ _ _
  refine PySem.wpAt_bind (PySem.wpAt_stack fun p below => PySem.wpAt_of_wpAny ?_)
  wp_walk
  refine PySem.wpAt_of_wpAny ?_
  rw [F.owner]
  repeat (first | with_reducible refine wpAny_madeHere_exc F.canon hC ?_ | with_reducible refine wpAny_loadPart_at hC ?_ | (with_reducible refine wpAny_isSubtype_exc hC ?_; first | rw [hcB] | rw [hcA] | rw [hcN]) | wp_step)
  show R _ _
  rw [Heap.size_push]
  exact hq
theorem x_type_call (h1 : bm.contains (.type "Exception") = true) (h2 : bm.contains (.type "AttributeError") = false) (h3 : bm.contains (.type "NameError") = false) {rest : List Value} {fI : Addr} {Q : Fin → Shared → Prop}
    (hC : h.get? C = some (excClassObj nm q C N bs bm hdct sn sub ab col dd k0 k1 k2 k3 k5 "Exception.__new__"))
    (hi : Looks (model prog w) h (typeLookup (.ref C) "__init__") (some (.ref fI))) (hb : ∀ self, Looks (model prog w) h (bindSpecial (.ref fI) self) (.ref fI, [self]))
    (hq : codeAny (model prog w) A (.call (.ref fI) ⟨.ref (h.objs.size + 1) :: rest, []⟩) (fun r s' => match r with | .ok (.ret v) => v = .none ∧ Q (.done (.ret (.ref (h.objs.size + 1)))) s' | .ok _ => False | .error e => E e s') ⟨(h.push (tupOf rest)).push (bareExc C h.objs.size), g, d, t, os⟩)
    (hrest : rest.length ≤ sizeLine := by size_fits) :
    wpAny (model prog w) A (Builtin.«type.__call__» ⟨.ref C :: rest, []⟩) Q E ⟨h, g, d, t, os⟩ := by
  have F := PySem.F.excBase_Exception
  repeat (first | with_reducible refine wpAny_loadPart_at hC ?_ | with_reducible refine wpAny_madeBy_exc hC ?_ | wp_step)
  refine codeAny_call_builtin_code (Code.quiet_builtin _ F.quiet) (x_check_new h1 hC ?_)
  refine x_new h1 h2 h3 hC ?_ hrest
  show wpAny _ _ _ _ _ _
  have k : ∀ b o, h.get? b = some o → ((h.push (tupOf rest)).push (bareExc C h.objs.size)).get? b = some o := fun b o e => Heap.get?_push_of_some _ (Heap.get?_push_of_some _ e)
  have hC₁ := k _ _ hC
  have hget : ((h.push (tupOf rest)).push (bareExc C h.objs.size)).get? (h.objs.size + 1) = some (bareExc C h.objs.size) := by heap_get
  have hcC : (Value.ref C :: bm).contains (.ref C) = true := by simp
  have i1 := hi.keeps k
  have b1 := (hb (.ref (h.objs.size + 1))).keeps k
  unfold isInstance
  repeat (first | with_reducible refine wpAny_loadPart_at hget ?_ | (with_reducible refine wpAny_isSubtype_exc hC₁ ?_; rw [hcC]) | wp_step)
  show wpAny _ _ (typeLookup (.ref C) _) _ _ _
  refine i1.at ?_
  refine wpAny_holding (wpAny_bind (b1.at (wpAny_bind (wpAny_call (codeAny_mono hq fun r s' z => ?_)))))
  rcases r with e | (v | _ | _ | _) <;> first | exact z | exact z.elim | skip
  obtain ⟨rfl, z⟩ := z
  exact wpAny_pure (wpAny_pure z)
theorem x_call (h1 : bm.contains (.type "Exception") = true) (h2 : bm.contains (.type "AttributeError") = false) (h3 : bm.contains (.type "NameError") = false) {rest : List Value} {fI : Addr} {Q : Value → Shared → Prop}
    (hC : h.get? C = some (excClassObj nm q C N bs bm hdct sn sub ab col dd k0 k1 k2 k3 k5 "Exception.__new__"))
    (hi : Looks (model prog w) h (typeLookup (.ref C) "__init__") (some (.ref fI))) (hb : ∀ self, Looks (model prog w) h (bindSpecial (.ref fI) self) (.ref fI, [self]))
    (hq : codeAny (model prog w) (A.under (.builtin "type.__call__" ⟨.ref C :: rest, []⟩)) (.call (.ref fI) ⟨.ref (h.objs.size + 1) :: rest, []⟩) (fun r s' => match r with | .ok (.ret v) => v = .none ∧ Q (.ref (h.objs.size + 1)) s' | .ok _ => False | .error e => E e s') ⟨(h.push (tupOf rest)).push (bareExc C h.objs.size), g, d, t, os⟩)
    (hrest : rest.length ≤ sizeLine := by size_fits) :
    wpAny (model prog w) A (call (.ref C) rest) Q E ⟨h, g, d, t, os⟩ := by
  have f1 := tc_lookup
  have f2 := tc_bind (.ref C)
  have hT : (⟨h, g, d, t, os⟩ : Shared).TypeIs (.ref C) "type" := ⟨_, hC, rfl⟩
  refine wpAny_call (codeAny_of_tree ?_)
  show wpAny _ _ (callAny (.ref C) _) _ _ _
  repeat (any_goals (first | assumption | with_reducible refine wpAny_loadPart_at hC ?_ | wp_step))
  refine ⟨rfl, ?_⟩
  exact codeAny_call_builtin_at (Code.quiet_builtin _ (by decide +kernel)) entry_typeCall (wpAny_check_type_call_sub hC (x_type_call (hrest := hrest) h1 h2 h3 hC hi hb hq))
end
section
variable {prog : Program} {w : World} {A : Around} {E : Value → Shared → Prop} {h : Heap} {g : Array GenState} {d : Drawn} {t : Nat} {os : OsState}
variable {nm q : Str} {C N : Addr} {bs bm : List Value} {hdct : Bool} {sn : List Str} {sub : List Value} {ab : Bool} {col : Option Bool} {dd : Option Addr} {k0 k1 k2 k3 k5 : Option Value}
theorem x_check_init {M : Model} (h1 : bm.contains (.type "Exception") = true) {e : Addr} {oe : Obj} {rest : List Value} {Q : Unit → Shared → Prop}
    (hC : h.get? C = some (excClassObj nm q C N bs bm hdct sn sub ab col dd k0 k1 k2 k3 k5 "Exception.__new__")) (he : h.get? e = some oe) (hcls : oe.cls = .ref C) (hq : Q () ⟨h, g, d, t, os⟩) :
    wpAny M A (checkBuiltinCall "Exception.__init__" ⟨.ref e :: rest, []⟩) Q E ⟨h, g, d, t, os⟩ := by
  have F := PySem.F.excBase_Exception
  have hcB : (Value.ref C :: bm).contains (.type "Exception") = true := by rw [List.contains_cons, h1, Bool.or_true]
  have hshort := F.noStar
  simp only [checkBuiltinCall, F.initKind, F.initSplit, F.initRow]
  repeat (first | (with_reducible refine wpAny_loadPart_at he ?_; rw [hcls]) | with_reducible refine wpAny_loadPart_at hC ?_ | (with_reducible refine wpAny_isSubtype_exc hC ?_; rw [hcB]) | wp_step)
  refine wpAny_onRaise ?_
  rw [show ∀ (a b : String) (n : Nat), Bind.check ⟨.positional, "*", "Exception", .self, [⟨"args", .varPos, false⟩]⟩ a b n (List.map (fun x => x.fst) ({ pos := Value.ref e :: rest } : Args).kw) = pure () from
    fun a b n => check_star_args _ _ _ _ _ _]
  exact wpAny_pure hq
theorem x_init_call (h1 : bm.contains (.type "Exception") = true) {e tt : Addr} {rest : List Value} {Q : Value → Shared → Prop}
    (hC : h.get? C = some (excClassObj nm q C N bs bm hdct sn sub ab col dd k0 k1 k2 k3 k5 "Exception.__new__")) (he : h.get? e = some (bareExc C tt))
    (hq : Q .none ⟨(h.push (tupOf rest)).update e (Obj.mapFields (·.setIfInBounds 0 (.ref h.objs.size))), g, d, t, os⟩) (hrest : rest.length ≤ sizeLine := by size_fits) :
    wpAny (model prog w) A (call (.builtin "Exception.__init__") (.ref e :: rest)) Q E ⟨h, g, d, t, os⟩ := by
  have F := PySem.F.excBase_Exception
  refine wpAny_call (codeAny_call_builtin F.init.plain F.initEntry (x_check_init h1 hC he rfl ?_))
  wp_walk
  exact hq
end
section
variable {prog : Program} {w : World} {A : Around} {E : Value → Shared → Prop} {s : Shared} {K : Frag} {C L : Addr} {h₀ : Heap} {m : Str → Option Value} {news : List (Addr × Obj)} {Q : Value → Shared → Prop}
theorem call_exc {rest : List Value} {fI : Addr} (F : Fr h₀ L s.heap m) (X₀ : K.In h₀) (N : News h₀ L s.heap news) (hm : xclsIn K C = true) (hi : findIn K (.ref C) "__init__" = some (some (.ref fI))) (hf : typeIn K (.ref fI) = some (.type "function"))
    (h : ∀ e t h', Fr h₀ L h' m → News h₀ L h' ((e, bareExc C t) :: (t, tupOf rest) :: news) → (∀ p ∈ news, p.1 < t) → t < e →
      codeAny (model prog w) (A.under (.builtin "type.__call__" ⟨.ref C :: rest, []⟩)) (.call (.ref fI) ⟨.ref e :: rest, []⟩) (fun r s' => match r with | .ok (.ret v) => v = .none ∧ Q (.ref e) s' | .ok _ => False | .error x => E x s') { s with heap := h' })
    (hrest : rest.length ≤ sizeLine := by size_fits) :
    wpAny (model prog w) A (call (.ref C) rest) Q E s := by
  obtain ⟨hh, g, d, t, os⟩ := s
  have X := X₀.keeps F.keep
  obtain ⟨nm, qn, N', bs, bm, hd, sn, sub, ab, col, dd, k0, k1, k2, k3, k5, hC, hb1, hb2, hb3, hb4⟩ := (xcls_of X hm).obj
  refine x_call hb2 hb3 hb4 hC (looks_findIn X hi) (fun self => bind_fn X self hf) (h _ hh.objs.size _ ((F.push _).push _) ?_ (fun p hp => Heap.lt_size (N p hp).1) (Nat.lt_succ_self _)) hrest
  have := (N.push F (tupOf rest)).push (F.push _) (bareExc C hh.objs.size)
  rwa [Heap.size_push] at this
theorem init_exc {e t : Addr} {rest : List Value} (F : Fr h₀ L s.heap m) (X₀ : K.In h₀) (N : News h₀ L s.heap ((e, bareExc C t) :: news)) (hm : xclsIn K C = true) (hne : ∀ p ∈ news, p.1 ≠ e)
    (h : ∀ t' h', Fr h₀ L h' m → News h₀ L h' ((e, bareExc C t') :: (t', tupOf rest) :: news) → (∀ p ∈ (e, bareExc C t) :: news, p.1 < t') → Q .none { s with heap := h' }) (hrest : rest.length ≤ sizeLine := by size_fits) :
    wpAny (model prog w) A (call (.builtin "Exception.__init__") (.ref e :: rest)) Q E s := by
  obtain ⟨hh, g, d, tk, os⟩ := s
  have X := X₀.keeps F.keep
  obtain ⟨nm, qn, N', bs, bm, hd, sn, sub, ab, col, dd, k0, k1, k2, k3, k5, hC, hb1, hb2, hb3, hb4⟩ := (xcls_of X hm).obj
  have he := (N _ (List.Mem.head _)).1
  refine x_init_call hb2 hC he ?_ hrest
  have N1 := N.push F (tupOf rest)
  have F1 := F.push (tupOf rest)
  have hlt : e < hh.objs.size := Heap.lt_size he
  obtain ⟨U1, U2⟩ := news_upd (pre := [(hh.objs.size, tupOf rest)]) (post := news) (o := bareExc C t) (o' := bareExc C hh.objs.size) (f := Obj.mapFields (·.setIfInBounds 0 (.ref hh.objs.size))) F1 N1
    (fun p hp => by rw [List.mem_singleton] at hp; subst hp; exact Nat.ne_of_gt hlt) hne rfl rfl
  refine h _ _ U1 (fun p hp => U2 p ?_) (fun p hp => Heap.lt_size (N p hp).1)
  rcases List.mem_cons.mp hp with rfl | hp
  · exact List.Mem.tail _ (List.Mem.head _)
  rcases List.mem_cons.mp hp with rfl | hp
  · exact List.Mem.head _
  · exact List.Mem.tail _ (List.Mem.tail _ hp)
end
noncomputable abbrev fullExc (C t dd : Addr) : Obj := { cls := .ref C, dict := some dd, data := .fields #[.ref t, .none, .none, .none, .bool false, .none] }
/-- the line of an own exception class -/
noncomputable def xline : List Value → Bool
  | [.type a, .type b, .type c] => a == "Exception" && b == "BaseException" && c == "object"
  | .ref _ :: r => xline r
  | _ => false
theorem xline_base (self : Value) : refuseLoop self "__setattr__" [.type "Exception", .type "BaseException", .type "object"] = pure () := by kernel_rfl
theorem xline_pass (self : Value) : ∀ {l : List Value}, xline l = true → refuseLoop self "__setattr__" l = pure ()
  | [.type a, .type b, .type c], e => by
    simp only [xline, Bool.and_eq_true, beq_iff_eq] at e
    obtain ⟨⟨rfl, rfl⟩, rfl⟩ := e
    exact xline_base self
  | .ref c :: r, e => by rw [refuseLoop_ref]; exact xline_pass self (by cases r <;> first | exact e | cases e)
theorem xline_has : ∀ {l : List Value}, xline l = true → l.contains (.type "object") = true
  | [.type a, .type b, .type c], e => by
    simp only [xline, Bool.and_eq_true, beq_iff_eq] at e
    obtain ⟨⟨rfl, rfl⟩, rfl⟩ := e
    simp
  | .ref c :: r, e => by rw [List.contains_cons, xline_has (l := r) (by cases r <;> first | exact e | cases e), Bool.or_true]
noncomputable def xlineIn (K : Frag) (C : Addr) : Bool := (clsIn K C).any fun cd => xline cd.mro && cd.hasDict
open Builtin Builtin.ObjectAttr
section
variable {prog : Program} {w : World} {A : Around} {E : Value → Shared → Prop} {R : Result → Shared → Prop} {s : Shared} {K : Frag} {C L x : Addr} {h₀ : Heap} {m : Str → Option Value} {news : List (Addr × Obj)}
theorem xsa_open {ox : Obj} {od : Option Obj} {name : Str} {tk : Tok} {v : Value} (X : K.In s.heap) (I : InstAt s.heap x ox C od) (hp : xlineIn K C = true) (ht : findIn K (.ref C) name = some none)
    (h : wpAny (model prog w) A.in1 (storeInOwnDict (.ref x) (.ref C) (.str name tk) name v false)
      (fun fin s' => match fin with | .done f => R (.ok f) s' | .again c' => c'.quiet = true ∧ codeAny (model prog w) A c' R s') (fun e s' => R (.error e) s') s) :
    codeAny (model prog w) A (.call (.builtin "object.__setattr__") ⟨[.ref x, .str name tk, v], []⟩) R s := by
  have SF := PySem.F.store_object
  obtain ⟨cd, hc, ho⟩ := any_some hp
  rw [Bool.and_eq_true] at ho
  have ne : cd.mro.isEmpty = false := by cases q : cd.mro with | nil => rw [q] at ho; cases ho.1 | cons _ _ => rfl
  have sub : Looks (model prog w) s.heap (isInstance (.ref x) (.type "object")) true := I.type.andThen (looks_mroIn X (by unfold mroIn; rw [hc, Option.bind_some, if_neg (by rw [ne]; decide), xline_has ho.1]))
  refine codeAny_call_builtin SF.slot.plain SF.entry (@check_slot (model prog w) _ _ s "object.__setattr__" "object" "__setattr__" (.ref x) [.str name tk, v] [] _ SF.kind SF.split sub (SF.args (.ref x) (.str name tk) v) ?_)
  have hm : Looks (model prog w) s.heap (mroOf (.ref C)) cd.mro := (looks_clsIn X hc).andThen .now
  rw [osa_eq, refuse_eq]
  refine wpAny_bind (wpAny_bind (I.type.here (wpAny_bind (hm.here ?_))))
  rw [xline_pass _ ho.1]
  refine wpAny_pure (wpAny_bind (I.type.here (wpAny_bind ((looks_findIn X ht).here ?_))))
  exact wpAny_bind (wpAny_pure h)
theorem x_store {d : Addr} {o o' : Obj} {name : Str} {tk : Tok} {v : Value} {es' : List DictEntry} {n' : Nat} {Q : Fin → Shared → Prop} (D : s.heap.get? d = some o) (hl : (lookIn name o).isSome = true)
    (e : Obj.putName name (PyData.keyHash w.params name) (.str name s.toks) v o = o') (e' : o'.data = .dict es'.toArray n') (hz : es'.length ≤ 1000)
    (h : Q (.done (.ret .none)) { s with heap := s.heap.update d (Obj.putName name (PyData.keyHash w.params name) (.str name s.toks) v), toks := s.toks + 1 }) :
    wpAny (model prog w) A (storeInDict d (.str name tk) name v) Q E s := by
  have D' : (s.heap.update d (Obj.putName name (PyData.keyHash w.params name) (.str name s.toks) v)).get? d = some o' := e ▸ Heap.get?_update_self _ D (by rw [e]; obtain ⟨_, _, dd, _⟩ := o'; cases e'; rfl)
  unfold storeInDict newKeyGuard
  refine wpAny_bind (wpAny_pure (wpAny_bind ?_))
  unfold nsSet
  refine wpAny_bind (wpAny_bind (wpAny_askSetting (wpAny_pure (wpAny_bind (wpAny_mkText (wpAny_bind (wpAny_loadPart D ?_)))))))
  unfold lookIn at hl
  split at hl
  · rename_i es₀ n₀ q
    rw [q]
    dsimp only
    have c : (!es₀.any (·.key.isStr name) && es₀.any (·.refKey)) = false := by
      rw [← Array.any_toList, ← Array.any_toList]
      split at hl
      · rename_i en he
        rw [List.any_eq_true.mpr ⟨en, List.mem_of_find?_eq_some he, List.find?_some he⟩]; rfl
      · split at hl
        · cases hl
        · rename_i z; rw [Bool.not_eq_true] at z; rw [z, Bool.and_false]
    rw [aRefKeyMayBeTheName_at, c]
    refine wpAny_updatePart D ?_
    refine wpAny_bind (wpAny_lookBehind D' (by rw [e']; exact pastItsLine_dict (by rw [List.size_toArray, sizeLine_eq]; omega)) ?_)
    exact wpAny_pure h
  · cases hl
/-- the first name set on an exception object: its dict is made -/
theorem set_exc1 {Q : Unit → Shared → Prop} {t : Addr} {name : Str} {v : Value} (F : Fr h₀ L s.heap m) (X₀ : K.In h₀) (N : News h₀ L s.heap ((x, bareExc C t) :: news)) (hne : ∀ p ∈ news, p.1 ≠ x)
    (hs : findIn K (.ref C) "__setattr__" = some (some (.builtin "object.__setattr__"))) (hp : xlineIn K C = true) (ht : findIn K (.ref C) name = some none)
    (h : ∀ dd h', Fr h₀ L h' m → News h₀ L h' ((x, fullExc C t dd) :: (dd, dictOf [⟨PyData.keyHash w.params name, .str name (s.toks + 1), v⟩] 1) :: news) → (∀ p ∈ (x, bareExc C t) :: news, p.1 < dd) → Q () { s with heap := h', toks := s.toks + 2 }) :
    wpAny (model prog w) A (setAttr (.ref x) name v) Q E s := by
  have X := X₀.keeps F.keep
  have hx : s.heap.get? x = some (bareExc C t) := (N _ (List.Mem.head _)).1
  have I : InstAt s.heap x (bareExc C t) C none := ⟨hx, rfl, rfl, trivial⟩
  refine set_plain X I hs (xsa_open (s := { s with toks := s.toks + 1 }) X I hp ht ?_)
  obtain ⟨cd, hc, ho⟩ := any_some hp
  rw [Bool.and_eq_true] at ho
  obtain ⟨hh, g, d, tk, os⟩ := s
  refine wpAny_bind (wpAny_pure (wpAny_bind (wpAny_bind (wpAny_loadPart hx (wpAny_bind ((looks_clsIn X hc) _ _ _ _ (fun _ _ e => e) ?_))))))
  rw [ho.2]
  have N1 := N.push F emptyDict
  have F1 := F.push emptyDict
  have hlt : x < hh.objs.size := Heap.lt_size hx
  have hx1 : (hh.push emptyDict).get? x = some (bareExc C t) := Heap.get?_push_of_some _ hx
  obtain ⟨F2, N2⟩ := news_upd (pre := [(hh.objs.size, emptyDict)]) (post := news) (o := bareExc C t) (o' := fullExc C t hh.objs.size) (f := fun o => { o with dict := some hh.objs.size }) F1 N1
    (fun p hp => by rw [List.mem_singleton] at hp; subst hp; exact Nat.ne_of_gt hlt) hne rfl rfl
  refine wpAny_bind (wpAny_alloc (wpAny_bind (wpAny_update hx1 ?_)))
  refine wpAny_bind (wpAny_pure (wpAny_pure ?_))
  have D := (N2 (hh.objs.size, emptyDict) (List.Mem.head _)).1
  show wpAny _ _ (storeInDict hh.objs.size (.str name tk) name v) _ _ _
  refine x_store (o' := dictOf [⟨PyData.keyHash w.params name, .str name (tk + 1), v⟩] 1) (es' := [⟨PyData.keyHash w.params name, .str name (tk + 1), v⟩]) (n' := 1) D rfl (by exact putName_dict name _ _ v [] 0) rfl (Nat.le_of_ble_eq_true rfl) ?_
  obtain ⟨F3, N3⟩ := news_upd (pre := []) (post := (x, fullExc C t hh.objs.size) :: news) (o := emptyDict) (o' := dictOf [⟨PyData.keyHash w.params name, .str name (tk + 1), v⟩] 1) (f := Obj.putName name (PyData.keyHash w.params name) (.str name (tk + 1)) v) F2 N2
    (fun p hp => nomatch hp) (fun p hp => by
      rcases List.mem_cons.mp hp with rfl | hp
      · exact Nat.ne_of_lt hlt
      · exact Nat.ne_of_lt (Heap.lt_size (N p (List.Mem.tail _ hp)).1)) (putName_dict name _ _ v [] 0) rfl
  refine h _ _ F3 (fun p hp => N3 p ?_) (fun p hp => Heap.lt_size (N p hp).1)
  rcases List.mem_cons.mp hp with rfl | hp
  · exact List.Mem.tail _ (List.Mem.head _)
  rcases List.mem_cons.mp hp with rfl | hp
  · exact List.Mem.head _
  · exact List.Mem.tail _ (List.Mem.tail _ hp)
theorem set_exc2 {Q : Unit → Shared → Prop} {t dd : Addr} {es es' : List DictEntry} {n n' : Nat} {name : Str} {v : Value} {news' : List (Addr × Obj)} (F : Fr h₀ L s.heap m) (X₀ : K.In h₀) (N : News h₀ L s.heap news) (hx : (x, fullExc C t dd) ∈ news) (hd : (dd, dictOf es n) ∈ news)
    (hs : findIn K (.ref C) "__setattr__" = some (some (.builtin "object.__setattr__"))) (hp : xlineIn K C = true) (ht : findIn K (.ref C) name = some none) (hl : (getL name es).isSome = true)
    (e : (putL name (PyData.keyHash w.params name) (.str name (s.toks + 1)) v es, putN name es n) = (es', n')) (U : Upd dd (dictOf es n) (dictOf es' n') news news') (hz : es'.length ≤ 1000)
    (h : ∀ h', Fr h₀ L h' m → News h₀ L h' news' → Q () { s with heap := h', toks := s.toks + 2 }) :
    wpAny (model prog w) A (setAttr (.ref x) name v) Q E s := by
  have X := X₀.keeps F.keep
  have hx : s.heap.get? x = some (fullExc C t dd) := (N _ hx).1
  have hD : s.heap.get? dd = some (dictOf es n) := (N _ hd).1
  clear hd
  have I : InstAt s.heap x (fullExc C t dd) C (some (dictOf es n)) := ⟨hx, rfl, rfl, hD⟩
  refine set_plain X I hs (xsa_open (s := { s with toks := s.toks + 1 }) X I hp ht ?_)
  obtain ⟨cd, hc, ho⟩ := any_some hp
  rw [Bool.and_eq_true] at ho
  obtain ⟨hh, g, d, tk, os⟩ := s
  refine wpAny_bind (wpAny_pure (wpAny_bind (wpAny_bind (wpAny_loadPart hx (wpAny_bind ((looks_clsIn X hc) _ _ _ _ (fun _ _ e => e) ?_))))))
  rw [ho.2]
  refine wpAny_pure (a := some dd) ?_
  obtain ⟨pre, post, rfl, rfl, a, b⟩ := U.split
  obtain ⟨e1, e2⟩ := Prod.mk.inj e
  show wpAny _ _ (storeInDict dd (.str name tk) name v) _ _ _
  refine x_store (es' := es') (n' := n') hD hl (o' := dictOf es' n') (by rw [putName_dict]; exact congr (congrArg _ e1) e2) rfl hz ?_
  obtain ⟨F3, N3⟩ := news_upd (o := dictOf es n) (o' := dictOf es' n') (f := Obj.putName name (PyData.keyHash w.params name) (.str name (tk + 1)) v) F N a b (by rw [putName_dict]; exact congr (congrArg _ e1) e2) rfl
  exact h _ F3 N3
end
end Mine
end
section
open PySem PySem.W PyProof.Rows
open Lean Elab Tactic Meta
set_option Elab.async false
set_option maxRecDepth 100000
set_option maxHeartbeats 8000000
namespace Mine
noncomputable abbrev LL : List Str := looseW Mine.vw [Str.ofString "PostError", Str.ofString "CHARSETS"]
/-- the entries of a Wire's dict -/
noncomputable abbrev wdict (h1 h2 : Int) (t1 t2 tb ta : Tok) (b : Array UInt8) (at_ : Int) (n : Nat) : Obj :=
  dictOf [⟨h1, .str (Str.ofString "data") t1, .bytes b tb⟩, ⟨h2, .str (Str.ofString "at") t2, .int at_ ta⟩] n
/-- the ledger with the object at d turned -/
noncomputable def upd (d : Addr) (o : Obj) (news : List (Addr × Obj)) : List (Addr × Obj) := (d, o) :: news.filter fun p => decide (p.1 ≠ d)
theorem upd_self {d : Addr} {o : Obj} {news : List (Addr × Obj)} : (d, o) ∈ upd d o news := List.Mem.head _
theorem upd_ne {d : Addr} {o : Obj} {news : List (Addr × Obj)} {p : Addr × Obj} (h : p ∈ news) (hn : p.1 ≠ d) : p ∈ upd d o news :=
  List.Mem.tail _ (List.mem_filter.mpr ⟨h, by simpa using hn⟩)
theorem upd_upd {d : Addr} {o o' : Obj} {news : List (Addr × Obj)} : upd d o' (upd d o news) = upd d o' news := by
  unfold upd
  rw [List.filter_cons]
  simp [List.filter_filter]
theorem news_apart {h₀ h : Heap} {L a b : Addr} {o o' : Obj} {news : List (Addr × Obj)} (N : News h₀ L h news) (ha : (a, o) ∈ news) (hb : (b, o') ∈ news) (hne : o.data ≠ o'.data) : a ≠ b := by
  rintro rfl
  have h1 := (N _ ha).1
  have h2 := (N _ hb).1
  rw [h1] at h2
  exact hne (congrArg Obj.data (Option.some.inj h2))
theorem inst_apart {h₀ h : Heap} {L x d C dd : Addr} {es : List DictEntry} {n : Nat} {news : List (Addr × Obj)} (N : News h₀ L h news) (hx : (x, instObj C dd) ∈ news) (hd : (d, dictOf es n) ∈ news) : x ≠ d :=
  news_apart N hx hd (by intro e; cases e)
end Mine
end
section
open PySem PySem.W PyProof.Rows
open Lean Elab Tactic Meta
set_option Elab.async false
set_option maxRecDepth 100000
set_option maxHeartbeats 8000000
namespace Mine
section
variable {prog : Program} {w : World} {mean : ExcName → Option Value} {mg mb : Str → Option Value}
    {dp un : Nat} {gd : Option (List Code)} {cn : Str} {cs : Scope} {a : Addr} {ccd : Value} {cl : List (Str × Addr)} {outer : List Env} {A₀ : Around} {base h₀ : Heap} {L : Addr} {m : Str → Option Value} {news : List (Addr × Obj)} {s : Shared}
    {Q E : Value → Shared → Prop}
    (B : Below A₀ base outer h₀) (F : Fr h₀ L s.heap m) (X : (Mine.laid.heap_1 w.params).In h₀) (N : News h₀ L s.heap news) (T : Top Mine.vw LL mean mg mb h₀) (hk : cs.kind = .function)
include B F X N T hk
theorem walkWords1 : True := by
  w_top off
  k_with_none
  k_with "my enter" => ((refine' code_def ?q9k1 ?q9k2 ?q9k3 ?q9k4 ?q9k5 ?q9kA ?q9kF ?q9kK ?q9k6 ?q9k7 ?q9k8 ?q9k9 ?q9kB ?_ ?q9c2 ?q9c3 ?q9c4 ?q9c5; (case q9kA => exact rfl); (case q9kF => exact rfl); (case q9kK => first | exact rfl | assumption); (case q9k1 => k_asm); (case q9k2 => k_asm); (case q9k3 => k_asm); (case q9k4 => k_asm); (case q9k5 => k_asm); (case q9k6 => k_is); (case q9k7 => k_is); (case q9k8 => ktr_room); (case q9k9 => first | exact binds_K (by k_in) rfl (by k_is) rfl rfl rfl | exact BindsTo.of_eq rfl); (case q9c5 => decide); (case q9kB => exact locs rfl); (case q9c2 => exact rfl); (case q9c3 => exact rfl); (case q9c4 => exact rfl); k_whole; intro z9g' z9L' z9h' z9FG' z9F' z9N' z9B' z9X' z9T'; (try dsimp only); (try k_fold)))
  trivial
omit B F X N T hk in
theorem News.sub {h₀ h : Heap} {L : Addr} {l l' : List (Addr × Obj)} (N : News h₀ L h l) (hs : ∀ q ∈ l', q ∈ l) : News h₀ L h l' := fun p hp => N p (hs p hp)
theorem mk_exc {C : Addr} {x : Str} {tx ti : Tok} {i : Int} (hC : xclsIn (Mine.laid.heap_1 w.params) C = true) (hL : xlineIn (Mine.laid.heap_1 w.params) C = true)
    (q1 : findIn (Mine.laid.heap_1 w.params) (.ref C) (Str.ofString "__init__") = some (some (.ref 36))) (q2 : findIn (Mine.laid.heap_1 w.params) (.ref C) (Str.ofString "__setattr__") = some (some (.builtin "object.__setattr__")))
    (q3 : findIn (Mine.laid.heap_1 w.params) (.ref C) (Str.ofString "what") = some none) (q4 : findIn (Mine.laid.heap_1 w.params) (.ref C) (Str.ofString "at") = some none)
    (hdp : dp + 4 < recursionLimit) (hun : un + 16 < cLine)
    (ret : ∀ e t dd k1 k2 t1 t2 h' tk', Fr h₀ L h' m → News h₀ L h' ((e, fullExc C t dd) :: (dd, dictOf [⟨k1, .str (Str.ofString "what") t1, .str x tx⟩, ⟨k2, .str (Str.ofString "at") t2, .int i ti⟩] 2) :: news) → (∀ p ∈ ((dd, dictOf [⟨k1, .str (Str.ofString "what") t1, .str x tx⟩, ⟨k2, .str (Str.ofString "at") t2, .int i ti⟩] 2) :: news : List (Addr × Obj)), p.1 ≠ e) → (∀ p ∈ news, p.1 < dd) → Q (.ref e) { s with heap := h', toks := tk' }) :
    wpAny (model prog w) (ktrTop dp un gd cn cs L a ccd cl outer) (call (.ref C) [.str x tx, .int i ti]) Q E s := by
  refine call_exc (fI := 36) (K := Mine.laid.heap_1 w.params) F X N hC q1 (by kernel_rfl) ?_
  intro e t h' F' N' hl1 hl2
  k_with "getMethod type:Exception" => (k_here; refine' method_type ?F ?X ?m (by decide +kernel) ?e ?h ?_; (case F => k_asm); (case X => k_asm); (case m => first | rfl | kernel_rfl); (case e => k_dflt k_is); (case h => k_handed))
  k_with "call builtin:Exception.__init__" => (k_here; k_dflt (refine' init_exc (K := Mine.laid.heap_1 w.params) ?F ?X ?N ?m ?ne ?_; (case F => k_asm); (case X => k_asm); (case N => k_asm); (case m => exact hC); (case ne => (intro p hp; rcases List.mem_cons.mp hp with rfl | hp; (exact Nat.ne_of_lt hl2); (exact Nat.ne_of_lt (Nat.lt_trans (hl1 p hp) hl2)))); k_whole); intro t2 h2 F2 N2 hl3)
  k_with "setAttr ref" => first
   | (k_here; k_dflt (refine' set_exc1 (K := Mine.laid.heap_1 w.params) ?F ?X ?N ?ne ?hs ?hp ?ht ?_; (case F => k_asm); (case X => k_asm); (case N => k_asm); (case hs => exact q2); (case hp => exact hL); (case ht => exact q3); (case ne => (intro p hp; rcases List.mem_cons.mp hp with rfl | hp; (exact Nat.ne_of_gt (hl3 _ (List.Mem.head _))); (rcases List.mem_cons.mp hp with rfl | hp; (exact Nat.ne_of_lt hl2); (exact Nat.ne_of_lt (Nat.lt_trans (hl1 p hp) hl2))))); k_whole); intro d2 h2 F2 N2 hl4)
   | (k_here; k_dflt (refine' set_exc2 (K := Mine.laid.heap_1 w.params) ?F ?X ?N ?x ?d ?hs ?hp ?ht ?hl ?e ?U ?hz ?_; (case F => k_asm); (case X => k_asm); (case N => k_asm); (case x => k_mem); (case d => k_mem); (case hs => exact q2); (case hp => exact hL); (case ht => exact q4); (case hl => rfl); (case e => rfl); (case U => exact Upd.tail (Nat.ne_of_lt (hl4 (e, bareExc C t2) (List.Mem.head _))) (Upd.head fun p hp => Nat.ne_of_lt (hl4 p (List.Mem.tail _ hp)))); (case hz => exact Nat.le_of_ble_eq_true rfl); k_whole); intro h2 F2 N2)
  k_dflt (walk_at "my enter")
  k_steps
  refine ret e t2 d2 (PyData.keyHash w.params (Str.ofString "what")) (PyData.keyHash w.params (Str.ofString "at")) (tk + 1) (tk + 2 + 1) _ _ (by k_asm) (News.sub (by assumption) fun q hq => ?_) (fun p hp => ?_) (fun p hp => hl4 p (List.Mem.tail _ (List.Mem.tail _ (List.Mem.tail _ hp))))
  · rcases List.mem_cons.mp hq with rfl | hq
    · exact List.Mem.head _
    rcases List.mem_cons.mp hq with rfl | hq
    · exact List.Mem.tail _ (List.Mem.head _)
    · exact List.Mem.tail _ (List.Mem.tail _ (List.Mem.tail _ (List.Mem.tail _ hq)))
  · rcases List.mem_cons.mp hp with rfl | hp
    · exact Nat.ne_of_gt (hl4 (e, bareExc C t2) (List.Mem.head _))
    · exact Nat.ne_of_lt (Nat.lt_trans (hl1 p hp) hl2)
end
end Mine
end
section
set_option Elab.async false
set_option maxRecDepth 100000
set_option maxHeartbeats 4000000
namespace Mine
open PySem PySem.W PySem.Spec PySem.Calls PyProof.Rows
open Sem (wp)
/-- what an object keeps while an exception flies by: its dict, its third field -/
noncomputable def KO (o o' : Obj) : Prop := o'.dict = o.dict ∧ ∀ vs, o.data = .fields vs → ∃ vs', o'.data = .fields vs' ∧ vs'[2]? = vs[2]?
theorem KO.refl (o : Obj) : KO o o := ⟨rfl, fun vs e => ⟨vs, e, rfl⟩⟩
theorem KO.trans {a b c : Obj} (x : KO a b) (y : KO b c) : KO a c := ⟨y.1.trans x.1, fun vs e => by
  obtain ⟨vs', e', q⟩ := x.2 vs e
  obtain ⟨vs'', e'', q'⟩ := y.2 vs' e'
  exact ⟨vs'', e'', q'.trans q⟩⟩
noncomputable def DK (h h' : Heap) : Prop := ∀ a o, h.get? a = some o → ∃ o', h'.get? a = some o' ∧ KO o o'
theorem DK.refl (h : Heap) : DK h h := fun _ o e => ⟨o, e, KO.refl o⟩
theorem DK.trans {h₁ h₂ h₃ : Heap} (x : DK h₁ h₂) (y : DK h₂ h₃) : DK h₁ h₃ := fun a o e => by
  obtain ⟨o', e', d'⟩ := x a o e
  obtain ⟨o'', e'', d''⟩ := y a o' e'
  exact ⟨o'', e'', d'.trans d''⟩
theorem DK.update {h : Heap} {a : Addr} {f : Obj → Obj} (hf : ∀ o, KO o (f o) ∧ (o.isFreed = false → (f o).isFreed = false)) : DK h (h.update a f) := fun b o e => by
  by_cases q : a = b
  · subst q
    exact ⟨_, Heap.get?_update_self _ e ((hf o).2 (Heap.get?_some_iff.mp e).2), (hf o).1⟩
  · exact ⟨o, (Heap.get?_update_other _ _ q).trans e, KO.refl o⟩
theorem DK.push {h : Heap} {o : Obj} : DK h (h.push o) := fun _ o' e => ⟨o', Heap.get?_push_of_some _ e, KO.refl o'⟩
structure KD {α : Type} (t : Sem α) : Prop where
  out : ∀ (M : Model) (Γ : PySem.Ctx) (P : α → Pos → Shared → Prop) (Ee : Value → Pos → Shared → Prop) (p : Pos) (s : Shared), wp M Γ t P Ee p s → wp M Γ t (fun a p' s' => P a p' s' ∧ DK s.heap s'.heap) Ee p s
namespace KD
variable {α β : Type}
theorem pure (a : α) : KD (Pure.pure a : Sem α) := ⟨fun _ _ _ _ _ _ h => ⟨h, DK.refl _⟩⟩
theorem unsupported (w : String) : KD (PySem.unsupported w : Sem α) := ⟨fun _ _ _ _ _ _ h => h⟩
theorem bind {m : Sem α} {f : α → Sem β} (hm : KD m) (hf : ∀ a, KD (f a)) : KD (m >>= f) := ⟨fun M Γ P Ee p s h => by
  rw [Sem.wp_bind'] at h ⊢
  refine Sem.wp_mono M Γ m (fun a p' s' h' => ?_) (fun _ _ _ x => x) p s (hm.out M Γ _ Ee p s h)
  exact Sem.wp_mono M Γ (f a) (fun b p'' s'' h'' => ⟨h''.1, h'.2.trans h''.2⟩) (fun _ _ _ x => x) p' s' ((hf a).out M Γ P Ee p' s' h'.1)⟩
theorem ite {c : Prop} [Decidable c] {t u : Sem α} (ht : KD t) (hu : KD u) : KD (if c then t else u) := by split <;> assumption
theorem load (a : Addr) : KD (PySem.load a) := ⟨fun M Γ P Ee p s h => by
  unfold PySem.load at h ⊢
  rw [Sem.wp_load] at h ⊢
  obtain ⟨o, ho, h⟩ := h
  rw [Sem.wp_pure] at h
  exact ⟨o, ho, by rw [Sem.wp_pure]; exact ⟨h, DK.refl _⟩⟩⟩
theorem update (a : Addr) (f : Obj → Obj) (hf : ∀ o, KO o (f o) ∧ (o.isFreed = false → (f o).isFreed = false)) : KD (PySem.update a f) := ⟨fun M Γ P Ee p s h => by
  rw [Sem.wp_cmd_update] at h ⊢
  exact ⟨h.1, h.2, DK.update hf⟩⟩
theorem stack : KD PySem.stack := ⟨fun M Γ P Ee p s h => by
  unfold PySem.stack at h ⊢
  rw [Sem.wp_stack, Sem.wp_pure] at h ⊢
  exact ⟨h, DK.refl _⟩⟩
theorem alloc (o : Obj) : KD (PySem.alloc o) := ⟨fun M Γ P Ee p s h => by
  rw [Sem.wp_cmd_alloc] at h ⊢
  exact ⟨h, DK.push⟩⟩
theorem field (v : Value) (i : Nat) : KD (PySem.field v i) := ⟨fun M Γ P Ee p s h => by
  rw [wp_field_iff] at h ⊢
  obtain ⟨a, o, vs, x, e, ho, hd, hx, hp⟩ := h
  exact ⟨a, o, vs, x, e, ho, hd, hx, hp, DK.refl _⟩⟩
theorem setField (v : Value) (i : Nat) (x : Value) (h2 : i ≠ 2) : KD (PySem.setField v i x) := ⟨fun M Γ P Ee p s h => by
  rw [wp_setField_iff] at h ⊢
  obtain ⟨a, o, vs, e, ho, hd, hi, hp⟩ := h
  refine ⟨a, o, vs, e, ho, hd, hi, hp, DK.update fun o' => ?_⟩
  obtain ⟨oc, od, odt, osl⟩ := o'
  cases odt <;> first
    | exact ⟨KO.refl _, fun z => z⟩
    | exact ⟨⟨rfl, fun vs e => ⟨_, rfl, by cases e; rw [Array.getElem?_setIfInBounds_ne h2]⟩⟩, fun z => z⟩⟩
end KD
theorem walkWords2 : True := by
  w_top off
  k_with_none
  k_with "kept data" => (repeat' with_reducible first
    | assumption
    | exact KD.pure _
    | exact KD.unsupported _
    | exact KD.field _ _
    | exact KD.setField _ _ _ (by decide)
    | exact KD.load _
    | exact KD.stack
    | exact KD.alloc _
    | apply KD.ite
    | apply KD.bind
    | intro _
    | split)
  trivial
theorem kd_behindIsImport (env : Env) (outer : List Env) : KD (behindIsImport env outer) := by
  unfold behindIsImport
  (walk_at "kept data")
theorem kd_underTheClaimsCaller : KD underTheClaimsCaller := by
  unfold underTheClaimsCaller
  (walk_at "kept data")
theorem kd_keptBack (env : Env) (i : Bool) (l : List Env) : KD (keptBack env i l) := by
  have := kd_underTheClaimsCaller
  cases l <;> unfold keptBack <;> (walk_at "kept data")
theorem kd_readyFrames : ∀ l : List Env, KD (readyFrames l)
  | [] => KD.pure _
  | env :: outer => by
    have ih := kd_readyFrames outer
    have h1 := kd_behindIsImport env outer
    have h2 := fun i => kd_keptBack env i outer
    have h3 := fun (f : Addr) (back : Value) => KD.update f (fun o => { o with slots := #[some env.code, some (.ref env.globals), o.slots.getD 2 none, some back, o.slots.getD 4 none, env.func.map Value.ref, some (.ref env.builtins)]
                                          ++ (env.cells.map fun c => some (.ref c.2)).toArray }) (fun o => ⟨⟨rfl, fun vs e => ⟨vs, e, rfl⟩⟩, fun z => (kts_isFreed o _).trans z⟩)
    unfold readyFrames
    (walk_at "kept data")
    all_goals first | exact h2 _ | exact h3 _ _ | skip
theorem kd_frameObject (l : List Env) : KD (frameObject l) := by
  cases l with
  | nil => exact KD.pure _
  | cons env outer =>
    have := kd_readyFrames (env :: outer)
    unfold frameObject
    (walk_at "kept data")
theorem kd_frameEnvs : KD frameEnvs := by
  unfold frameEnvs
  (walk_at "kept data")
theorem kd_frameOf (env : Env) : KD (PySem.frameOf env) := by
  have h1 := kd_frameEnvs
  have h2 := kd_frameObject
  unfold PySem.frameOf
  (walk_at "kept data")
  all_goals first | exact h2 _ | skip
theorem kd_entryPlaceOf (f : Addr) (hadNext : Bool) : KD (entryPlaceOf f hadNext) := by
  unfold entryPlaceOf
  (walk_at "kept data")
theorem kd_newEntry (a b c d e : Value) (pl : List Value) : KD (EntryCells.newEntry a b c d e pl) := by
  unfold EntryCells.newEntry newFields newObj newObjAsIs
  dsimp only
  (walk_at "kept data")
theorem kd_setFlight (e : Value) (f : Option Addr) : KD (setFlight e f) := by
  unfold setFlight
  (walk_at "kept data")
theorem kd_noteFrame (e : Value) (env : Env) : KD (noteFrame e env) := by
  have h1 := kd_frameOf env
  have h2 := kd_entryPlaceOf
  have h3 := kd_newEntry
  unfold noteFrame
  (walk_at "kept data")
  all_goals first | exact h2 _ _ | exact h3 _ _ _ _ _ _ | skip
theorem kd_leaving (e : Value) (env : Env) : KD (leaving env e) := by
  have h1 := kd_noteFrame e env
  have h2 := kd_setFlight e none
  unfold leaving
  (walk_at "kept data")
theorem KD.any {α : Type} {t : Sem α} (k : KD t) {M : Model} {A : Around} {Q : α → Shared → Prop} {E : Value → Shared → Prop} {s : Shared} (h : wpAny M A t Q E s) : wpAny M A t (fun a s' => Q a s' ∧ DK s.heap s'.heap) E s :=
  fun Γ p hΓ => k.out M Γ _ _ p s (h Γ p hΓ)
end Mine
end
section
set_option Elab.async false
set_option maxRecDepth 100000
set_option maxHeartbeats 4000000
namespace Mine
open PySem PySem.W PySem.Spec PySem.Calls PyProof.Rows
section
variable {prog : Program} {w : World} {M : Model} {A : Around} {E : Value → Shared → Prop} {s : Shared} {env : Env}
/-- what a raise statement wants of the value it is given -/
noncomputable def RaisableX (E : Value → Shared → Prop) (v : Value) (s₁ : Shared) : Prop :=
  ∃ e C t dd, v = .ref e ∧ s₁.heap.get? e = some (fullExc C t dd) ∧ XCls s₁.heap C ∧ E (.ref e) s₁
theorem RaiseX {x : PySem.Expr} {pos : Pos} {Q : Flow → Shared → Prop} (hh : A.handled = none)
    (h : wpAny M A (eval x env) (RaisableX E) E s) : wpAny M A (exec (.Raise (some x) none pos) env) Q E s := by
  show wpAny M A (do standAt pos; raiseStmt env (some (do let v ← eval x env; standAt pos; pure v)) none) Q E s
  refine wpAny_bind (wpAny_standAt ?_)
  unfold raiseStmt
  refine wpAny_bind (wpAny_bind (wpAny_mono h (fun v s₁ h₁ => wpAny_bind (wpAny_standAt (wpAny_pure ?_))) fun _ _ x => x))
  obtain ⟨e, C, t, dd, rfl, he, hX, hE⟩ := h₁
  obtain ⟨nm, qn, N', bs, bm, hd, sn, sub, ab, col, dd', k0, k1, k2, k3, k5, hC, hb1, hb2, hb3, hb4⟩ := hX.obj
  have hcB : (Value.ref C :: bm).contains (.type "BaseException") = true := by rw [List.contains_cons, hb1, Bool.or_true]
  obtain ⟨hp, g, d, tk, os⟩ := s₁
  repeat (first | with_reducible refine wpAny_loadPart_at he ?_ | with_reducible refine wpAny_loadPart_at hC ?_ | (with_reducible refine wpAny_isSubtype_exc hC ?_; rw [hcB]) | wp_step)
  exact wpAny_raiseNew_none hh hE
end
/-- thrown, with its dict known -/
noncomputable def Thrown (base G : Heap) (l : List Env) (e C dd : Addr) (news : List (Addr × Obj)) (h : Heap) : Prop :=
  RaisedSN base G l e (.ref C) news h ∧ ∃ o vs, h.get? e = some o ∧ o.dict = some dd ∧ o.data = .fields vs ∧ vs[2]? = some .none
theorem Thrown.dk {base G G' : Heap} {l l' : List Env} {e C dd : Addr} {news : List (Addr × Obj)} {h h' : Heap} (x : Thrown base G l e C dd news h) (k : DK h h') (r : RaisedSN base G' l' e (.ref C) news h') : Thrown base G' l' e C dd news h' := by
  obtain ⟨o, vs, e1, e2, e3, e4⟩ := x.2
  obtain ⟨o', e1', k1, k2⟩ := k _ _ e1
  obtain ⟨vs', e3', e4'⟩ := k2 vs e3
  exact ⟨r, o', vs', e1', k1.trans e2, e3', e4'.trans e4⟩
section
variable {M : Model} {A : Around} {E : Value → Shared → Prop} {s' : Shared} {base g g₂ h : Heap} {outer : List Env} {L a e C t dd : Addr} {m : Str → Option Value} {name : Str} {scope : Scope} {cd : Value} {Q : Unit → Shared → Prop} {news : List (Addr × Obj)}
theorem leave_own {ctx : Value} (K : Below A base outer g) (F : Fr g L s'.heap m) (N : News g L s'.heap ((e, { cls := .ref C, dict := some dd, data := .fields #[.ref t, .none, ctx, .none, .bool false, .none] }) :: news)) (hne : ∀ p ∈ news, p.1 ≠ e)
    (hQ : ∀ h', RaisedSN base g outer e (.ref C) news h' → (ctx = .none → Thrown base g outer e C dd news h') → g.UpToSlots h' → Q () { s' with heap := h' }) (hk : scope.kind = .function) :
    wpAny M (A.deeper (envOf name scope L a cd)) (leaving (envOf name scope L a cd) (.ref e)) Q E s' := by
  have K' := K.push (name := name) (a := a) (cd := cd) F hk
  have he := (N _ (List.Mem.head _)).1
  have heL : e ≠ L := (N _ (List.Mem.head _)).2.1
  have heg : g.get? e = none := (N _ (List.Mem.head _)).2.2
  have hin : ∀ env ∈ (envOf name scope L a cd :: outer), ∀ b, env.frame = some b → b ∈ e :: (envOf name scope L a cd :: outer).filterMap (·.frame) := fun env he b hb => List.mem_cons_of_mem _ (List.mem_filterMap.mpr ⟨env, he, hb⟩)
  have st : base.StaysIn (hideAll s'.heap (e :: (envOf name scope L a cd :: outer).filterMap (·.frame))) := fun b o q => hideAll_get _ (K'.stays b o q) fun hm => by
    rcases List.mem_cons.mp hm with rfl | hm
    · rw [K.stays _ _ q] at heg; cases heg
    · rw [(K'.frames.mem hm).1] at q; cases q
  have sg : ∀ b o, g.get? b = some o → b ∉ outer.filterMap (·.frame) → (hideAll s'.heap (e :: (envOf name scope L a cd :: outer).filterMap (·.frame))).get? b = some o := fun b o q nm => hideAll_get _ (F.keep b o q) fun hm => by
    rcases List.mem_cons.mp hm with rfl | hm
    · rw [heg] at q; cases q
    · rcases kts_mem hm with z | z
      · rw [z, kts_self F] at q
        cases q
      · exact nm z
  have hl : ∀ q ∈ news, (hideAll s'.heap (e :: (envOf name scope L a cd :: outer).filterMap (·.frame))).get? q.1 = some q.2 ∧ g.get? q.1 = none ∧ base.get? q.1 = none := fun q hq => by
    have hq' := N q (List.Mem.tail _ hq)
    refine ⟨hideAll_get _ hq'.1 fun hm => ?_, hq'.2.2, fresh_of_stays K.stays hq'.2.2⟩
    rcases List.mem_cons.mp hm with z | hm
    · exact hne q hq z
    · obtain ⟨env, he, hf⟩ := List.mem_filterMap.mp hm
      rcases List.mem_cons.mp he with rfl | he
      · exact hq'.2.1 (Option.some.inj hf).symm
      · obtain ⟨o, ho, _⟩ := (K.frames.mem (List.mem_filterMap.mpr ⟨env, he, hf⟩)).2
        rw [hq'.2.2] at ho; cases ho
  have hen : (hideAll s'.heap (e :: (envOf name scope L a cd :: outer).filterMap (·.frame))).get? e = none := hideAll_none _ (List.Mem.head _)
  refine wpAny_mono ((kd_leaving (.ref e) (envOf name scope L a cd)).any (E := E) (Q := fun _ s₂ => s₂ = { s' with heap := s₂.heap } ∧ RaisedSN base g outer e (.ref C) news s₂.heap ∧ g.UpToSlots s₂.heap) ?_) (fun _ s₂ z => ?_) fun _ _ z => z
  · refine wpAny_leaving_firstW (a0 := .ref t) K'.stack (funFrames_hide K'.frames hin) rfl he (fun b o hb => of_hideAll _ hb) hen rfl rfl rfl fun h' hL => ?_
    obtain ⟨k1, ⟨_, _, k2⟩, k3, k4⟩ := hL
    exact ⟨rfl, ⟨_, .ref t, st, sg, hl, k1, hen, k2, k3⟩, (Heap.UpToSlots.of_keeps F.keep).trans k4⟩
  · obtain ⟨⟨z1, z2, z3⟩, z4⟩ := z
    rw [z1]
    refine hQ _ z2 (fun hc => ?_) z3
    subst hc
    obtain ⟨o', e1', k1, k2⟩ := z4 _ _ he
    obtain ⟨vs', e3', e4'⟩ := k2 _ rfl
    exact ⟨z2, o', vs', e1', k1, e3', e4'⟩
theorem leave_thrown (K : Below A base outer g) (F : Fr g L g₂ m) (R : Thrown base g₂ (envOf name scope L a cd :: outer) e C dd news s'.heap) (hsm : g₂.UpToSlots s'.heap)
    (hQ : ∀ h', Thrown base g outer e C dd news h' → g.UpToSlots h' → Q () { s' with heap := h' }) :
    wpAny M (A.deeper (envOf name scope L a cd)) (leaving (envOf name scope L a cd) (.ref e)) Q E s' := by
  refine wpAny_mono ((kd_leaving (.ref e) (envOf name scope L a cd)).any (E := E) (Q := fun _ s₂ => s₂ = { s' with heap := s₂.heap } ∧ RaisedSN base g outer e (.ref C) news s₂.heap ∧ g.UpToSlots s₂.heap) ?_) (fun _ s₂ z => ?_) fun _ _ z => z
  · exact leave_onSN K F R.1 hsm fun h' R1 _ U => ⟨rfl, R1, U⟩
  · obtain ⟨⟨z1, z2, z3⟩, z4⟩ := z
    rw [z1]
    exact hQ _ (R.dk z4 z2) z3
end
end Mine
end
section
set_option Elab.async false
set_option maxRecDepth 100000
set_option maxHeartbeats 4000000
namespace Mine
open PySem PySem.W PySem.Spec PySem.Calls PyProof.Rows
theorem entry_unchain : entryFor table "proto.unchain" = some Builtin.«proto.unchain» := entryFor_of_tree (by kernel_rfl)
section
variable {prog : Program} {w : World} {A : Around} {E : Value → Shared → Prop} {R : Result → Shared → Prop} {s : Shared} {env : Env}
theorem unchain_none {v sl : Value} {e : Addr} {o : Obj} {vs : Array Value} (he : s.heap.get? e = some o) (hd : o.data = .fields vs) (h2 : vs[2]? = some .none) (h : R (.ok (.ret .none)) s) :
    codeAny (model prog w) A (.builtin "proto.unchain" ⟨[v, .ref e, sl, .bool false], []⟩) R s := by
  refine codeAny_builtin entry_unchain ?_
  unfold Builtin.«proto.unchain»
  dsimp only
  refine wpAny_bind (wpAny_field he hd h2 ?_)
  rw [if_pos (by rfl)]
  exact wpAny_pure h
theorem raise_over {α : Type} {Q : α → Shared → Prop} {e2 e : Addr} {o o2 : Obj} {vs vs2 : Array Value} (hh : A.handled = some (.ref e)) (hne : e ≠ e2) (he : s.heap.get? e = some o) (hd : o.data = .fields vs) (h2 : vs[2]? = some .none)
    (he2 : s.heap.get? e2 = some o2) (hd2 : o2.data = .fields vs2) (hsz : 2 < vs2.size)
    (h : E (.ref e2) { s with heap := s.heap.update e2 (Obj.mapFields (·.setIfInBounds 2 (.ref e))) }) : wpAny (model prog w) A (raiseNew (.ref e2) : Sem α) Q E s := by
  unfold raiseNew
  refine wpAny_bind (wpAny_handled ?_)
  rw [hh]
  dsimp only
  rw [if_pos (by simpa using hne)]
  refine wpAny_bind (wpAny_holding (wpAny_runValue (unchain_none he hd h2 ?_)))
  show wpAny _ _ (do setField (.ref e2) 2 (.ref e); throw (.ref e2)) _ _ _
  exact wpAny_bind (wpAny_setField he2 hd2 hsz (wpAny_throw h))
end
section
variable {prog : Program} {w : World} {A : Around} {E : Value → Shared → Prop} {s : Shared} {env : Env}
noncomputable def RaisableM (E : Value → Shared → Prop) (e : Addr) (v : Value) (s₁ : Shared) : Prop :=
  ∃ e2 C t dd, v = .ref e2 ∧ s₁.heap.get? e2 = some (fullExc C t dd) ∧ XCls s₁.heap C ∧ e ≠ e2 ∧ (∃ o vs, s₁.heap.get? e = some o ∧ o.data = .fields vs ∧ vs[2]? = some .none) ∧
    E (.ref e2) { s₁ with heap := s₁.heap.update e2 (Obj.mapFields (·.setIfInBounds 2 (.ref e))) }
theorem RaiseXM {x : PySem.Expr} {pos : Pos} {Q : Flow → Shared → Prop} {e : Addr} (hh : A.handled = some (.ref e))
    (h : wpAny (model prog w) A (eval x env) (RaisableM E e) E s) : wpAny (model prog w) A (exec (.Raise (some x) none pos) env) Q E s := by
  show wpAny (model prog w) A (do standAt pos; raiseStmt env (some (do let v ← eval x env; standAt pos; pure v)) none) Q E s
  refine wpAny_bind (wpAny_standAt ?_)
  unfold raiseStmt
  refine wpAny_bind (wpAny_bind (wpAny_mono h (fun v s₁ h₁ => wpAny_bind (wpAny_standAt (wpAny_pure ?_))) fun _ _ x => x))
  obtain ⟨e2, C, t, dd, rfl, he2, hX, hne, ⟨o, vs, he, hd, h2⟩, hE⟩ := h₁
  obtain ⟨nm, qn, N', bs, bm, hdc, sn, sub, ab, col, dd', k0, k1, k2, k3, k5, hC, hb1, hb2, hb3, hb4⟩ := hX.obj
  have hcB : (Value.ref C :: bm).contains (.type "BaseException") = true := by rw [List.contains_cons, hb1, Bool.or_true]
  obtain ⟨hp, g, d, tk, os⟩ := s₁
  repeat (first | with_reducible refine wpAny_loadPart_at he2 ?_ | with_reducible refine wpAny_loadPart_at hC ?_ | (with_reducible refine wpAny_isSubtype_exc hC ?_; rw [hcB]) | wp_step)
  exact raise_over hh hne he hd h2 he2 rfl (Nat.lt_of_lt_of_le (by decide : 2 < 6) (Nat.le_refl _)) hE
end
section
variable {M : Model} {A : Around} {E : Value → Shared → Prop} {s : Shared}
theorem setFlightW {base : Heap} {l : List Env} {e : Addr} {cls a0 fl : Value} {fr : Option Addr} {Q : Unit → Shared → Prop}
    (hkb : base.StaysIn s.heap) (hl : s.heap.FunFrames base l) (ht : s.heap.TracedAtW base e cls a0 fl)
    (h : ∀ h', base.StaysIn h' → h'.FunFrames base l → h'.TracedAtW base e cls a0 (fr.elim .none fun f => rawInt f) → (∀ b o, s.heap.get? b = some o → (∀ vs, o.data ≠ .fields vs) → h'.get? b = some o) → Q () { s with heap := h' }) :
    wpAny M A (setFlight (.ref e) fr) Q E s := by
  obtain ⟨oe, vs, T, oT, ts, he, hcls, hd, h1, hnT, hTe, hT, hdT, h3⟩ := ht
  have hsz3 : 3 < ts.size := (Array.getElem?_eq_some_iff.mp h3).1
  have other : ∀ b, b ≠ T → (s.heap.update T (Obj.mapFields (·.setIfInBounds 3 (fr.elim Value.none fun f => rawInt f)))).get? b = s.heap.get? b :=
    fun b hb => Heap.get?_update_other _ _ (Ne.symm hb)
  have noRecord : ∀ b o, s.heap.get? b = some o → (∀ vs, o.data ≠ .fields vs) → b ≠ T := fun b o hb hnf q => by
    rw [q, hT] at hb; injection hb with hb; subst hb; exact hnf ts hdT
  unfold setFlight
  refine wpAny_bind (wpAny_field he hd h1 ?_)
  rw [if_pos (show (Value.ref T != Value.none) = true from by simp)]
  refine wpAny_setField hT hdT hsz3 (h _ (fun b o hbo => (other b fun q => by rw [q, hnT] at hbo; cases hbo).trans (hkb b o hbo))
    (hl.of_keeps fun b o hb hnf => ⟨o, (other b (noRecord b o hb hnf)).trans hb, rfl⟩) ?_ fun b o hb hnf => (other b (noRecord b o hb hnf)).trans hb)
  exact ⟨oe, vs, T, _, _, (other e (Ne.symm hTe)).trans he, hcls, hd, h1, hnT, hTe, Heap.get?_update_self _ hT (Obj.isFreed_of_fields (Obj.data_mapFields hdT _)), Obj.data_mapFields hdT _, by simp [hsz3]⟩
theorem funFrames_same {base h h' : Heap} {L : Addr} (hs : Heap.SameBut L h h') : ∀ {l : List Env}, h.FunFrames base l → (∀ b ∈ l.filterMap (·.frame), b ≠ L) → h'.FunFrames base l
  | [], _, _ => trivial
  | env :: r, hl, hn => by
    obtain ⟨hk, ⟨L', o, hf, hb, ho, hd⟩, hr⟩ := hl
    rw [List.filterMap_cons, hf] at hn
    exact ⟨hk, ⟨L', o, hf, hb, (hs.2 L' (hn L' (List.Mem.head _))).trans ho, hd⟩, funFrames_same hs hr fun b m => hn b (List.Mem.tail _ m)⟩
theorem noteFrame_firstW {base : Heap} {env : Env} {outer : List Env} {L e : Addr} {oe : Obj} {vs : Array Value} {a0 : Value} {Q : Unit → Shared → Prop}
    (hfr : A.frames = some (env :: outer)) (hl : s.heap.FunFrames base (env :: outer)) (hf : env.frame = some L)
    (he : s.heap.get? e = some oe) (hkb : base.StaysIn s.heap) (hen : base.get? e = none) (hd : oe.data = .fields vs) (h1 : vs[1]? = some .none) (h0 : vs[0]? = some a0)
    (h : ∀ h', Heap.NotedW base (env :: outer) e oe.cls a0 (rawInt L) s.heap h' → Q () { s with heap := h' }) : wpAny M A (noteFrame (.ref e) env) Q E s := by
  unfold noteFrame
  simp only [hf]
  refine wpAny_bind (wpAny_field he hd h1 ?_)
  rw [if_neg (by decide)]
  exact wpAny_entryW hfr hl hf he hkb hen hd (Array.getElem?_eq_some_iff.mp h1).1 h0 h
theorem traced_field {base : Heap} {e : Addr} {cls a0 fl : Value} {α : Type} {k : Value → Sem α} {Q : α → Shared → Prop} (ht : s.heap.TracedAtW base e cls a0 fl) (h : ∀ T, wpAny M A (k (.ref T)) Q E s) : wpAny M A (field (.ref e) 1 >>= k) Q E s := by
  obtain ⟨oe, vs, T, oT, ts, he, hcls, hd, h1, _⟩ := ht
  exact wpAny_bind (wpAny_field he hd h1 (h T))
theorem suite_over {base g : Heap} {outer : List Env} {L a e e2 C t dd : Addr} {m : Str → Option Value} {name n : Str} {scope : Scope} {cd : Value} {pos : Pos} {news : List (Addr × Obj)} {E' : Value → Shared → Prop}
    (K : Below A base outer g) (F : Fr g L s.heap m) (N : News g L s.heap ((e2, fullExc C t dd) :: news)) (hne : ∀ p ∈ news, p.1 ≠ e2)
    (hQ : ∀ h' tk, RaisedSN base g outer e2 (.ref C) news h' → g.UpToSlots h' → E' (.ref e2) { s with heap := h', toks := tk })
    (hk : scope.kind = .function) (hl : (envOf name scope L a cd).kindOf n = some .local) :
    AsSuiteRaised M ((A.deeper (envOf name scope L a cd)).mark (some (.ref e))) (envOf name scope L a cd) n pos (notedBy M ((A.deeper (envOf name scope L a cd)).mark (some (.ref e))) (envOf name scope L a cd) (cameBackBy M (A.deeper (envOf name scope L a cd)) (envOf name scope L a cd)
      (fun x s' => wpAny M (A.deeper (envOf name scope L a cd)) (leaving (envOf name scope L a cd) x) (fun _ s'' => E' x s'') (fun x' s'' => E' x' s'') s'))) (.ref e2) { s with heap := s.heap.update e2 (Obj.mapFields (·.setIfInBounds 2 (.ref e))) } := by
  have he := (N _ (List.Mem.head _)).1
  have heL : e2 ≠ L := (N _ (List.Mem.head _)).2.1
  have heg : g.get? e2 = none := (N _ (List.Mem.head _)).2.2
  have hSB : Heap.SameBut e2 s.heap (s.heap.update e2 (Obj.mapFields (·.setIfInBounds 2 (.ref e)))) := Heap.SameBut.update _ _ _
  have F1 : Fr g L (s.heap.update e2 (Obj.mapFields (·.setIfInBounds 2 (.ref e)))) m := F.change hSB heL heg
  have he1 : (s.heap.update e2 (Obj.mapFields (·.setIfInBounds 2 (.ref e)))).get? e2 = some { cls := .ref C, dict := some dd, data := .fields #[.ref t, .none, .ref e, .none, .bool false, .none] } :=
    Heap.get?_update_self _ he rfl
  have N1 : News g L (s.heap.update e2 (Obj.mapFields (·.setIfInBounds 2 (.ref e)))) news := fun q hq => by
    have hq' := N q (List.Mem.tail _ hq)
    exact ⟨(hSB.2 _ (hne q hq)).trans hq'.1, hq'.2⟩
  generalize s.heap.update e2 (Obj.mapFields (·.setIfInBounds 2 (.ref e))) = h1 at F1 he1 N1 ⊢
  have K' := K.push (name := name) (a := a) (cd := cd) F1 hk
  have hin : ∀ env ∈ (envOf name scope L a cd :: outer), ∀ b, env.frame = some b → b ∈ e2 :: (envOf name scope L a cd :: outer).filterMap (·.frame) := fun env he b hb => List.mem_cons_of_mem _ (List.mem_filterMap.mpr ⟨env, he, hb⟩)
  have st : base.StaysIn (hideAll h1 (e2 :: (envOf name scope L a cd :: outer).filterMap (·.frame))) := fun b o q => hideAll_get _ (K'.stays b o q) fun hm => by
    rcases List.mem_cons.mp hm with rfl | hm
    · rw [K.stays _ _ q] at heg; cases heg
    · rw [(K'.frames.mem hm).1] at q; cases q
  have sg : ∀ b o, g.get? b = some o → b ∉ outer.filterMap (·.frame) → (hideAll h1 (e2 :: (envOf name scope L a cd :: outer).filterMap (·.frame))).get? b = some o := fun b o q nm => hideAll_get _ (F1.keep b o q) fun hm => by
    rcases List.mem_cons.mp hm with rfl | hm
    · rw [heg] at q; cases q
    · rcases kts_mem hm with z | z
      · rw [z, kts_self F] at q
        cases q
      · exact nm z
  have hnl : ∀ q ∈ news, (hideAll h1 (e2 :: (envOf name scope L a cd :: outer).filterMap (·.frame))).get? q.1 = some q.2 ∧ g.get? q.1 = none ∧ base.get? q.1 = none := fun q hq => by
    have hq' := N1 q hq
    refine ⟨hideAll_get _ hq'.1 fun hm => ?_, hq'.2.2, fresh_of_stays K.stays hq'.2.2⟩
    rcases List.mem_cons.mp hm with z | hm
    · exact hne q hq z
    · obtain ⟨env, he, hf⟩ := List.mem_filterMap.mp hm
      rcases List.mem_cons.mp he with rfl | he
      · exact hq'.2.1 (Option.some.inj hf).symm
      · obtain ⟨o, ho, _⟩ := (K.frames.mem (List.mem_filterMap.mpr ⟨env, he, hf⟩)).2
        rw [hq'.2.2] at ho; cases ho
  have hen : (hideAll h1 (e2 :: (envOf name scope L a cd :: outer).filterMap (·.frame))).get? e2 = none := hideAll_none _ (List.Mem.head _)
  have hLn : (hideAll h1 (e2 :: (envOf name scope L a cd :: outer).filterMap (·.frame))).get? L = none := hideAll_none _ (List.Mem.tail _ (List.Mem.head _))
  have hsub : Heap.StaysIn (hideAll h1 (e2 :: (envOf name scope L a cd :: outer).filterMap (·.frame))) h1 := fun b o hb => of_hideAll _ hb
  have ffr := funFrames_hide K'.frames hin
  generalize hideAll h1 (e2 :: (envOf name scope L a cd :: outer).filterMap (·.frame)) = B at st sg hnl hen hLn hsub ffr
  have hfr : ((A.deeper (envOf name scope L a cd)).mark (some (.ref e))).frames = some (envOf name scope L a cd :: outer) := Around.frames_deeper K.stack
  refine noteFrame_firstW hfr ffr rfl he1 hsub hen rfl rfl rfl fun h2 hN2 => ?_
  obtain ⟨a1, a2, a3, a4⟩ := hN2
  have up2 : h1.UpToSlots h2 := a4
  refine wpAny_nameGoes hl (up2.ns F1.ns) (by show (scope.kind == .class || (scope.kind == .module && L != mainGlobals)) = false; rw [hk]; rfl) fun h3 m3 hn3 hs3 => ?_
  have b1 : B.StaysIn h3 := fun b o q => (hs3.2 b fun z => by rw [z, show (envOf name scope L a cd).locals = L from rfl, hLn] at q; cases q).trans (a1 b o q)
  have b2 : h3.FunFrames B (envOf name scope L a cd :: outer) := .cons (by show scope.kind ≠ .module; rw [hk]; decide) rfl hn3 hLn (funFrames_same hs3 a2.2.2 fun b m z => by
    obtain ⟨o, ho, _⟩ := (K.frames.mem m).2
    rw [z, show (envOf name scope L a cd).locals = L from rfl, kts_self F] at ho; cases ho)
  have b3 : h3.TracedAtW B e2 (.ref C) (.ref t) (rawInt L) := by
    obtain ⟨oe, vs, T, oT, ts, he, hcls, hd, h1', hnT, hTe, hT, hdT, h3'⟩ := a3
    obtain ⟨oL, es, ep, hoL, hdL, _⟩ := up2.ns F1.ns
    refine ⟨oe, vs, T, oT, ts, (hs3.2 _ heL).trans he, hcls, hd, h1', hnT, hTe, (hs3.2 _ fun z => ?_).trans hT, hdT, h3'⟩
    rw [z, show (envOf name scope L a cd).locals = L from rfl, hoL] at hT
    cases hT
    rw [hdL] at hdT; cases hdT
  have up3 : g.UpToSlots h3 := fun b o hb hnf => by
    obtain ⟨sl, hsl⟩ := a4 b o (F1.keep b o hb) hnf
    exact ⟨sl, (hs3.2 b fun z => by rw [z, show (envOf name scope L a cd).locals = L from rfl, kts_self F] at hb; cases hb).trans hsl⟩
  unfold PySem.passOn
  refine traced_field b3 fun T => ?_
  rw [if_neg (by simp)]
  refine wpAny_bind (setFlightW b1 b2 b3 fun h4 c1 c2 c3 c4 => wpAny_throw ?_)
  unfold notedBy
  refine wpAny_noteFrame_againW (L := L) rfl c3 ?_
  unfold cameBackBy
  refine traced_field c3 fun T => ?_
  rw [if_neg (by simp)]
  refine setFlightW c1 c2 c3 fun h5 d1 d2 d3 d4 => ?_
  unfold leaving
  refine wpAny_bind (wpAny_noteFrame_againW (L := L) rfl d3 ?_)
  refine setFlightW d1 d2 d3 fun h6 e1 e2' e3 e4 => ?_
  refine hQ h6 _ ⟨B, .ref t, st, sg, hnl, e1, hen, e2'.2.2, e3⟩ fun b o hb hnf => ?_
  obtain ⟨sl, hsl⟩ := up3 b o hb hnf
  exact ⟨sl, e4 _ _ (d4 _ _ (c4 _ _ hsl hnf) hnf) hnf⟩
end
end Mine
end
section
set_option Elab.async false
set_option maxRecDepth 100000
set_option maxHeartbeats 4000000
namespace Mine
open PySem PySem.W PySem.Spec PySem.Calls PyProof.Rows
section
variable {prog : Program} {w : World} {A₀ : Around} {E : Value → Shared → Prop} {s' : Shared} {base g G : Heap} {outer : List Env} {L a e C dd : Addr} {m : Str → Option Value} {name : Str} {scope : Scope} {cd : Value}
  {n : Str} {b₀ : Stmt} {suite : List Stmt} {pos : Pos} {rest : List ExceptHandler} {Q : Flow → Shared → Prop} {news : List (Addr × Obj)} {KF : Frag} {tt : Expr}
  {p : Program} {loose : List Str} {mean : ExcName → Option Value} {mg mb : Str → Option Value}
theorem RaisedSN.unturn {g g' : Heap} {l : List Env} {cls : Value} {h : Heap} (T : KtsTurn (l.filterMap (·.frame)) g g') (R : RaisedSN base g' l e cls news h) : RaisedSN base g l e cls news h := by
  obtain ⟨B, a0, h1, h2, h3, h4⟩ := R
  refine ⟨B, a0, h1, fun b o hb hm => h2 b o (T.other b o hb hm) hm, fun q hq => ⟨(h3 q hq).1, ?_, (h3 q hq).2.2⟩, h4⟩
  cases z : g.get? q.1 with
  | none => rfl
  | some o =>
    obtain ⟨sl, hs⟩ := T.up z
    rw [(h3 q hq).2.1] at hs; cases hs
theorem up_unturn {g g' h : Heap} {fs : List Addr} (T : KtsTurn fs g g') (U : g'.UpToSlots h) : g.UpToSlots h := fun b o hb hnf => by
  obtain ⟨sl, hs⟩ := T.up hb
  obtain ⟨sl', hs'⟩ := U b _ hs hnf
  exact ⟨sl', hs'⟩
/-- an own exception, caught under a name, its object in the ledger -/
theorem hit_TB (R : Thrown base G (envOf name scope L a cd :: outer) e C dd news s'.heap) (F : Fr g L G m) (K : Below A₀ base outer g) (hsm : G.UpToSlots s'.heap) (XB : KF.In base) (TB : Top p loose mean mg mb base)
    (T : KtsTest prog w KF p loose mg mb name scope L a cd (.ref C) tt true)
    (k : ∀ h' g' tk vs sl, KtsTurn (outer.filterMap (·.frame)) g g' → Fr g' L h' (fun y => if y = n then some (.ref e) else m y) → News g' L h' ((e, { cls := .ref C, dict := some dd, data := .fields vs, slots := sl }) :: news) → vs[2]? = some .none →
      Below A₀ base outer g' → KF.In g' → Top p loose mean mg mb g' →
      wpAny (model prog w) ((A₀.deeper (envOf name scope L a cd)).mark (some (.ref e))) (execs (b₀ :: suite) (envOf name scope L a cd))
        (fun f s₄ => wpAny (model prog w) (A₀.deeper (envOf name scope L a cd)) (do bindName (envOf name scope L a cd) n .none; unbindBehindTheSuite (envOf name scope L a cd) n pos) (fun _ s₅ => Q f s₅) E s₄)
        (AsSuiteRaised (model prog w) ((A₀.deeper (envOf name scope L a cd)).mark (some (.ref e))) (envOf name scope L a cd) n pos (notedBy (model prog w) ((A₀.deeper (envOf name scope L a cd)).mark (some (.ref e))) (envOf name scope L a cd) (cameBackBy (model prog w) (A₀.deeper (envOf name scope L a cd)) (envOf name scope L a cd) E)))
        { s' with heap := h', toks := tk })
    (hk : scope.kind = .function) (hlo : (envOf name scope L a cd).kindOf n = some .local) :
    wpAny (model prog w) (A₀.deeper (envOf name scope L a cd)) (noteFrame (.ref e) (envOf name scope L a cd))
      (fun _ s₂ => wpAny (model prog w) (A₀.deeper (envOf name scope L a cd)) (setFlight (.ref e) none) (fun _ s₃ =>
        wpAny (model prog w) (A₀.deeper (envOf name scope L a cd)) (handleBy (.ref e) (envOf name scope L a cd) (.ExceptHandler (some tt) (some n) (b₀ :: suite) pos :: rest)) Q E s₃) E s₂) E s' := by
  obtain ⟨⟨B, a0, hB, hBG, hl, hfl⟩, oR, vR, eR, dR, fR, zR⟩ := R
  refine wpAny_mono ((kd_noteFrame (.ref e) (envOf name scope L a cd)).any (E := E) (Q := fun _ s₂ => ∃ h₄, s₂ = { s' with heap := h₄ } ∧ Heap.HeldW B (envOf name scope L a cd :: outer) e (.ref C) a0 L h₄ ∧ s'.heap.UpToSlots h₄) (wpAny_looks_onW (Around.frames_deeper K.stack) rfl hfl fun h₄ x y => ⟨h₄, rfl, x, y⟩)) (fun _ s₂ z => ?_) fun _ _ z => z
  obtain ⟨⟨h₄, rfl, hheld₄, hsm₄⟩, dk₄⟩ := z
  refine wpAny_mono ((kd_setFlight (.ref e) none).any (E := E) (Q := fun _ s₂ => ∃ h₅, s₂ = { s' with heap := h₅ } ∧ Heap.FlyingW B (envOf name scope L a cd :: outer) e (.ref C) a0 h₅ ∧ h₄.UpToSlots h₅) (wpAny_landsW hheld₄ fun h₅ x y => ⟨h₅, rfl, x, y⟩)) (fun _ s₂ z => ?_) fun _ _ z => z
  obtain ⟨⟨h₅, rfl, hfl₅, hsm₅'⟩, dk₅⟩ := z
  have hsm₅ := hsm.trans (hsm₄.trans hsm₅')
  obtain ⟨g₅, T₅, F₅, K₅⟩ := kts_ground K F hBG hfl₅.1 hsm₅
  have hty : Looks (model prog w) h₅ (typeOf (.ref e)) (.ref C) := by
    obtain ⟨ob, hob, hc⟩ := hfl₅.there
    exact hc ▸ (Looks.ld hob).andThen .now
  refine wpAny_handleBy_cons (codeAny_handlers_test (T _ _ _ _ g₅ e m F₅ (XB.keeps K₅.stays) (topRead_of (TB.keeps K₅.stays)) hty fun h₆ kp => ?_)) (by intro q; cases q)
  have hfl₆ := flying_keeps hfl₅ kp
  have hsm₆ : G.UpToSlots h₆ := hsm₅.trans (Heap.UpToSlots.of_keeps kp)
  have hL : B.get? L = none := by
    obtain ⟨_, ⟨L', _, hf, hn', _⟩, _⟩ := hfl₆.2.2.1
    obtain rfl : L = L' := Option.some.inj hf
    exact hn'
  refine codeAny_handlers_suite_as ?_
  refine wpAny_mono ((kd_setFlight (.ref e) none).any (Q := fun _ s₂ => ∃ h₇, s₂ = { s' with heap := h₇ } ∧ Heap.FlyingW B (envOf name scope L a cd :: outer) e (.ref C) a0 h₇ ∧ h₆.UpToSlots h₇) (lands_againW hfl₆ fun h₇ x y => ⟨h₇, rfl, x, y⟩)) (fun _ s₂ z => ?_) fun _ _ z => z
  obtain ⟨⟨h₇, rfl, hfl₇, hsm₇⟩, dk₇⟩ := z
  obtain ⟨g₆, T₆, F₆, K₆⟩ := kts_ground K F hBG hfl₇.1 (hsm₆.trans hsm₇)
  have dk : DK s'.heap h₇ := (dk₄.trans dk₅).trans (DK.trans (fun b o q => ⟨o, kp b o q, KO.refl o⟩) dk₇)
  obtain ⟨oe, ke, kd1, kd2⟩ := dk _ _ eR
  obtain ⟨vs, fv, zv⟩ := kd2 _ fR
  obtain ⟨oe', ws, hoe, hoec, hoed, hoe0⟩ := hfl₇.first
  have : oe' = oe := by rw [ke] at hoe; exact (Option.some.inj hoe).symm
  subst this
  have ne₆ : g₆.get? e = none := T₆.none_ _ (kts_fresh F hBG hfl₇.2.1 fun o ho m => by
    obtain ⟨_, o', ho', hd⟩ := K.frames.mem m
    rw [ho] at ho'
    cases ho'
    obtain ⟨sl, hs⟩ := (hsm₆.trans hsm₇) _ _ (F.keep _ _ ho) hd
    rw [hoe] at hs
    cases hs
    exact hd _ hoed)
  have N₆ := News.more F₆ News.nil hoe (fun es n q => by rw [hoed] at q; cases q) ne₆
  have Nl : News g₆ L h₇ news := fun q hq => ⟨hfl₇.1 _ _ (hl q hq).1, (fun z => by have := (hl q hq).1; rw [z, hL] at this; cases this), T₆.none_ _ (kts_none F.keep (hl q hq).2.1)⟩
  have hob : oe' = { cls := .ref C, dict := some dd, data := .fields vs, slots := oe'.slots } := by
    obtain ⟨c, d, dt, sl⟩ := oe'
    dsimp only at hoec kd1 fv ⊢
    rw [hoec, kd1, dR, fv]
  refine stN F₆ (news := (e, oe') :: news) (fun q hq => by
    rcases List.mem_cons.mp hq with rfl | hq
    · exact N₆ _ (List.Mem.head _)
    · exact Nl q hq) (fun h₈ F₈ N₈ => ?_) hk hlo
  rw [hob] at N₈
  exact k h₈ g₆ _ vs _ T₆ F₈ N₈ (zv.trans zR) K₆ (XB.keeps K₆.stays) (TB.keeps K₆.stays)
end
theorem inst_exc {h₀ h : Heap} {L x C dx : Addr} {news : List (Addr × Obj)} {od : Obj} {vs : Array Value} {sl : Array (Option Value)} (N : News h₀ L h news) (h1 : (x, (⟨.ref C, some dx, .fields vs, sl⟩ : Obj)) ∈ news) (h2 : (dx, od) ∈ news) :
    InstAt h x ⟨.ref C, some dx, .fields vs, sl⟩ C (some od) := ⟨(N _ h1).1, rfl, rfl, (N _ h2).1⟩
section
variable {prog : Program} {w : World} {A : Around} {E : Value → Shared → Prop} {s : Shared} {K : Frag} {C L x : Addr} {h₀ : Heap} {m : Str → Option Value} {ox : Obj} {es : List DictEntry} {n : Nat} {name : Str} {v : Value}
theorem x_check_ga {M : Model} {od : Option Obj} {nameV : Value} {Q : Unit → Shared → Prop} (X : K.In s.heap) (I : InstAt s.heap x ox C od) (hm : xclsIn K C = true) (hq : Q () s) :
    wpAny M A (checkBuiltinCall "BaseException.__getattribute__" ⟨[.ref x, nameV], []⟩) Q E s := by
  have hk : builtinKind "BaseException.__getattribute__" = some .slot := by decide +kernel
  have hsplit : splitId "BaseException.__getattribute__" = some ("BaseException", "__getattribute__") := by decide +kernel
  obtain ⟨nm, qn, N', bs, bm, hd, sn, sub, ab, col, dd, k0, k1, k2, k3, k5, hC, hb1, hb2, hb3, hb4⟩ := (xcls_of X hm).obj
  have hcB : (Value.ref C :: bm).contains (.type "BaseException") = true := by rw [List.contains_cons, hb1, Bool.or_true]
  have ha := PySem.F.args_bexc_ga (.ref x) nameV
  have hx := I.at_
  have hc := I.cls
  obtain ⟨hp, g, d, tk, os⟩ := s
  simp only [checkBuiltinCall, hk, hsplit]
  refine wpAny_bind ?_
  · unfold isInstance
    repeat (first | (with_reducible refine wpAny_loadPart_at hx ?_; rw [hc]) | (with_reducible refine wpAny_isSubtype_exc hC ?_; rw [hcB]) | wp_step)
    exact hq
theorem get_exc {expr : Bool} {Q : Value → Shared → Prop} (F : Fr h₀ L s.heap m) (X₀ : K.In h₀) (I : InstAt s.heap x ox C (some (dictOf es n))) (hm : xclsIn K C = true)
    (hga : findIn K (.ref C) "__getattribute__" = some (some (.builtin "BaseException.__getattribute__"))) (hge : findIn K (.ref C) "__getattr__" = some none) (hh : hasDictIn K C = true)
    (ha : findIn K (.ref C) name = some none) (hl : getL name es = some (some v)) (hv : handedIn v = true) (h : Q v { s with toks := s.toks + 1 }) :
    wpAny (model prog w) A (getAttr (.ref x) name expr) Q E s := by
  have X := X₀.keeps F.keep
  have hfind : findObj K C (some (dictOf es n)) name = some (.value v) := findObj_own hh ha rfl hl
  have hx0 : (expr && onTheHeap (Value.builtin "BaseException.__getattribute__")) = false := by cases expr <;> rfl
  have hx2 : (Value.builtin "BaseException.__getattribute__" == Value.builtin "object.__getattribute__") = false := by decide +kernel
  obtain ⟨hp, g, d, tk, os⟩ := s
  have L0 := I.type (M := model prog w)
  have L1 := looks_findIn (M := model prog w) X hga
  have L2 := looks_findIn (M := model prog w) X hge
  have L3 := looks_find (M := model prog w) X I hfind
  unfold getAttr getAttrBy
  refine wpAny_bind (wpAny_mkText (wpAny_holding (wpAny_bind (L0.at (wpAny_bind (L1.at ?_))))))
  dsimp only
  rw [hx2, Bool.and_false, if_neg Bool.false_ne_true]
  unfold getAttrByItsOwn hookBefore callGetattribute
  rw [hx0, if_neg Bool.false_ne_true]
  rw [if_pos (show onTheHeap (Value.ref C) = true from rfl)]
  refine wpAny_bind (L2.at (wpAny_bind (wpAny_attempt (wpAny_holding ?_))))
  unfold boundAndCalled
  have hbs : bindSpecial (.builtin "BaseException.__getattribute__") (.ref x) = pure (.builtin "BaseException.__getattribute__", [.ref x]) := by kernel_rfl
  rw [hbs]
  refine wpAny_bind (wpAny_pure ?_)
  dsimp only
  refine wpAny_call (codeAny_call_builtin (show plainId "BaseException.__getattribute__" = true by decide +kernel) PySem.F.entry_bexc_ga (x_check_ga X I hm ?_))
  unfold Builtin.«object.__getattribute__»
  refine wpAny_bind (wpAny_pure ?_)
  dsimp only
  refine wpAny_bind (wpAny_pure (wpAny_bind (L0.at (wpAny_bind (L3.at ?_)))))
  refine wpAny_pure ?_
  show wpAny _ _ (handedOut v) _ _ _
  rw [handedOut_of hv]; exact wpAny_pure h
end
end Mine
end
section
open PySem PySem.W PyProof.Rows
open Lean Elab Tactic Meta
set_option Elab.async false
set_option maxRecDepth 100000
set_option maxHeartbeats 8000000
namespace Mine
noncomputable abbrev ktrTopM (e0 : Addr) (dp un : Nat) (gd : Option (List Code)) (cn : Str) (cs : Scope) (L a : Addr) (ccd : Value) (cl : List (Str × Addr)) (outer : List Env) : Around := { handled := some (.ref e0), depth := dp, frames := some (envX cn cs L a ccd cl :: outer), guards := gd, units := un }
section
variable {prog : Program} {w : World} {mean : ExcName → Option Value} {mg mb : Str → Option Value}
    {dp un : Nat} {gd : Option (List Code)} {cn : Str} {cs : Scope} {a : Addr} {ccd : Value} {cl : List (Str × Addr)} {outer : List Env} {A₀ : Around} {base h₀ : Heap} {L : Addr} {m : Str → Option Value} {news : List (Addr × Obj)} {s : Shared}
    {Q E : Value → Shared → Prop}
    (B : Below A₀ base outer h₀) (F : Fr h₀ L s.heap m) (X : (Mine.laid.heap_1 w.params).In h₀) (N : News h₀ L s.heap news) (T : Top Mine.vw LL mean mg mb h₀) (hk : cs.kind = .function)
include B F X N T hk
theorem walkWords3 : True := by
  w_top off
  k_with_none
  k_with "my enter" => ((refine' code_def ?q9k1 ?q9k2 ?q9k3 ?q9k4 ?q9k5 ?q9kA ?q9kF ?q9kK ?q9k6 ?q9k7 ?q9k8 ?q9k9 ?q9kB ?_ ?q9c2 ?q9c3 ?q9c4 ?q9c5; (case q9kA => exact rfl); (case q9kF => exact rfl); (case q9kK => first | exact rfl | assumption); (case q9k1 => k_asm); (case q9k2 => k_asm); (case q9k3 => k_asm); (case q9k4 => k_asm); (case q9k5 => k_asm); (case q9k6 => k_is); (case q9k7 => k_is); (case q9k8 => ktr_room); (case q9k9 => first | exact binds_K (by k_in) rfl (by k_is) rfl rfl rfl | exact BindsTo.of_eq rfl); (case q9c5 => decide); (case q9kB => exact locs rfl); (case q9c2 => exact rfl); (case q9c3 => exact rfl); (case q9c4 => exact rfl); k_whole; intro z9g' z9L' z9h' z9FG' z9F' z9N' z9B' z9X' z9T'; (try dsimp only); (try k_fold)))
  trivial
theorem mk_excM {e0 C : Addr} {x : Str} {tx ti : Tok} {i : Int} (hC : xclsIn (Mine.laid.heap_1 w.params) C = true) (hL : xlineIn (Mine.laid.heap_1 w.params) C = true)
    (q1 : findIn (Mine.laid.heap_1 w.params) (.ref C) (Str.ofString "__init__") = some (some (.ref 36))) (q2 : findIn (Mine.laid.heap_1 w.params) (.ref C) (Str.ofString "__setattr__") = some (some (.builtin "object.__setattr__")))
    (q3 : findIn (Mine.laid.heap_1 w.params) (.ref C) (Str.ofString "what") = some none) (q4 : findIn (Mine.laid.heap_1 w.params) (.ref C) (Str.ofString "at") = some none)
    (hdp : dp + 4 < recursionLimit) (hun : un + 16 < cLine)
    (ret : ∀ e t dd k1 k2 t1 t2 h' tk', Fr h₀ L h' m → News h₀ L h' ((e, fullExc C t dd) :: (dd, dictOf [⟨k1, .str (Str.ofString "what") t1, .str x tx⟩, ⟨k2, .str (Str.ofString "at") t2, .int i ti⟩] 2) :: news) → (∀ p ∈ ((dd, dictOf [⟨k1, .str (Str.ofString "what") t1, .str x tx⟩, ⟨k2, .str (Str.ofString "at") t2, .int i ti⟩] 2) :: news : List (Addr × Obj)), p.1 ≠ e) → (∀ p ∈ news, p.1 < dd) → Q (.ref e) { s with heap := h', toks := tk' }) :
    wpAny (model prog w) (ktrTopM e0 dp un gd cn cs L a ccd cl outer) (call (.ref C) [.str x tx, .int i ti]) Q E s := by
  refine call_exc (fI := 36) (K := Mine.laid.heap_1 w.params) F X N hC q1 (by kernel_rfl) ?_
  intro e t h' F' N' hl1 hl2
  k_with "getMethod type:Exception" => (k_here; refine' method_type ?F ?X ?m (by decide +kernel) ?e ?h ?_; (case F => k_asm); (case X => k_asm); (case m => first | rfl | kernel_rfl); (case e => k_dflt k_is); (case h => k_handed))
  k_with "call builtin:Exception.__init__" => (k_here; k_dflt (refine' init_exc (K := Mine.laid.heap_1 w.params) ?F ?X ?N ?m ?ne ?_; (case F => k_asm); (case X => k_asm); (case N => k_asm); (case m => exact hC); (case ne => (intro p hp; rcases List.mem_cons.mp hp with rfl | hp; (exact Nat.ne_of_lt hl2); (exact Nat.ne_of_lt (Nat.lt_trans (hl1 p hp) hl2)))); k_whole); intro t2 h2 F2 N2 hl3)
  k_with "setAttr ref" => first
   | (k_here; k_dflt (refine' set_exc1 (K := Mine.laid.heap_1 w.params) ?F ?X ?N ?ne ?hs ?hp ?ht ?_; (case F => k_asm); (case X => k_asm); (case N => k_asm); (case hs => exact q2); (case hp => exact hL); (case ht => exact q3); (case ne => (intro p hp; rcases List.mem_cons.mp hp with rfl | hp; (exact Nat.ne_of_gt (hl3 _ (List.Mem.head _))); (rcases List.mem_cons.mp hp with rfl | hp; (exact Nat.ne_of_lt hl2); (exact Nat.ne_of_lt (Nat.lt_trans (hl1 p hp) hl2))))); k_whole); intro d2 h2 F2 N2 hl4)
   | (k_here; k_dflt (refine' set_exc2 (K := Mine.laid.heap_1 w.params) ?F ?X ?N ?x ?d ?hs ?hp ?ht ?hl ?e ?U ?hz ?_; (case F => k_asm); (case X => k_asm); (case N => k_asm); (case x => k_mem); (case d => k_mem); (case hs => exact q2); (case hp => exact hL); (case ht => exact q4); (case hl => rfl); (case e => rfl); (case U => exact Upd.tail (Nat.ne_of_lt (hl4 (e, bareExc C t2) (List.Mem.head _))) (Upd.head fun p hp => Nat.ne_of_lt (hl4 p (List.Mem.tail _ hp)))); (case hz => exact Nat.le_of_ble_eq_true rfl); k_whole); intro h2 F2 N2)
  k_dflt (walk_at "my enter")
  k_steps
  refine ret e t2 d2 (PyData.keyHash w.params (Str.ofString "what")) (PyData.keyHash w.params (Str.ofString "at")) (tk + 1) (tk + 2 + 1) _ _ (by k_asm) (News.sub (by assumption) fun q hq => ?_) (fun p hp => ?_) (fun p hp => hl4 p (List.Mem.tail _ (List.Mem.tail _ (List.Mem.tail _ hp))))
  · rcases List.mem_cons.mp hq with rfl | hq
    · exact List.Mem.head _
    rcases List.mem_cons.mp hq with rfl | hq
    · exact List.Mem.tail _ (List.Mem.head _)
    · exact List.Mem.tail _ (List.Mem.tail _ (List.Mem.tail _ (List.Mem.tail _ hq)))
  · rcases List.mem_cons.mp hp with rfl | hp
    · exact Nat.ne_of_gt (hl4 (e, bareExc C t2) (List.Mem.head _))
    · exact Nat.ne_of_lt (Nat.lt_trans (hl1 p hp) hl2)
end
end Mine
end
section
set_option Elab.async false
set_option maxRecDepth 100000
set_option maxHeartbeats 4000000
namespace Mine
open PySem PySem.W PySem.Spec PySem.Calls PyProof.Rows
/-- an exception whose context is not set -/
noncomputable def HM (e : Addr) (h : Heap) : Prop := ∃ o vs, h.get? e = some o ∧ o.data = .fields vs ∧ vs[2]? = some .none
theorem hm_news {h₀ h : Heap} {L e : Addr} {news : List (Addr × Obj)} {c : Value} {dd : Option Addr} {vs : Array Value} {sl : Array (Option Value)} (N : News h₀ L h news) (hm : (e, (⟨c, dd, .fields vs, sl⟩ : Obj)) ∈ news) (hz : vs[2]? = some .none) : HM e h := ⟨_, vs, (N _ hm).1, rfl, hz⟩
section
variable {prog : Program} {w : World} {A : Around} {E : Value → Shared → Prop} {s : Shared} {e : Addr}
theorem next_end_M {it t : Addr} {i : Nat} {items : Array Value} {Q : Option Value → Shared → Prop} (hh : A.handled = some (.ref e)) (hM : HM e s.heap) (hne : it ≠ e)
    (hit : s.heap.IsTupleIter it t i) (ht : s.heap.IsTuple t items) (hx : items[i]? = none)
    (hQ : ∀ h', Heap.ExtBut it s.heap h' → Q none { s with heap := h' }) : wpAny (model prog w) A (pyNext (.ref it)) Q E s := by
  obtain ⟨oe, ve, me1, me2, me3⟩ := hM
  obtain ⟨o, ho, hc, hd⟩ := id hit
  obtain ⟨ol, hol, _, nl, hdl⟩ := ht
  unfold pyNext
  refine wpAny_bind (wpAny_attempt (wpAny_callSpecial?_slot (name := Str.ofString "__next__") hit.typeIs PySem.F.slot_tuple_iterator_next
    (wpAny_call_entry PySem.F.slot_tuple_iterator_next hit.typeIs PySem.F.entry_tuple_iterator_next ?_ (PySem.F.args_tuple_iterator_next_1 _))))
  show wpAny _ _ (field (.ref it) 0 >>= _) _ _ s
  refine wpAny_bind (wpAny_field ho hd (x := .ref t) rfl ?_)
  show wpAny _ _ (if (Value.ref t == Value.none) = true then _ else _) _ _ s
  rw [if_neg (show ¬ ((Value.ref t == Value.none) = true) from Bool.false_ne_true)]
  show wpAny _ _ (field (.ref it) 1 >>= _) _ _ s
  refine wpAny_bind (wpAny_field ho hd (x := .int i 0) rfl ?_)
  show wpAny _ _ (seqItems? (.ref t) >>= _) _ _ s
  refine wpAny_bind (wpAny_seqItems hol hdl ?_)
  simp only [Int.toNat_natCast, hx]
  refine wpAny_bind (wpAny_rule (wpAny_bind (wpAny_setField ho hd (by simp) ?_)))
  show wpAny _ _ (newExc (.type "StopIteration") [] >>= _) _ _ _
  refine wpAny_bind ?_
  simp only [newExc, newTuple]
  refine wpAny_bind (wpAny_newObj_type ?_ (by size_fits))
  refine wpAny_bind (m := firstArgMember _ _) (wpAny_of_eq (a := Value.none) (by first | rfl | (simp only [firstArgMember]; rfl)) ?_)
  refine wpAny_newObj_type ?_ (by size_fits)
  have g1 := Heap.get?_push_of_some (h := s.heap.update it (Obj.mapFields (·.setIfInBounds 0 .none))) { cls := .type "tuple", data := .seq (([] : List Value).toArray) } ((Heap.get?_update_other _ _ hne).trans me1)
  have g2 := Heap.get?_push_of_some { cls := .type "StopIteration", data := .fields (#[.ref (s.heap.update it (Obj.mapFields (·.setIfInBounds 0 .none))).objs.size, .none, .none, .none, .bool false, .none] ++ ownMembersOf (.type "StopIteration") []) } g1
  refine raise_over hh (Nat.ne_of_lt (Heap.lt_size g1)) g2 me2 me3 (Heap.get?_push_size _ rfl) rfl (by simp; omega) ?_
  refine wpAny_bind (wpAny_isInstance (T := "StopIteration") (b := true) ⟨_, Heap.get?_update_self _ (Heap.get?_push_size _ rfl) rfl, rfl⟩ isSubtype_stop ?_)
  refine wpAny_pure (hQ _ fun b ob hb hg => ?_)
  have k1 := Heap.get?_push_of_some (h := s.heap.update it (Obj.mapFields (·.setIfInBounds 0 .none))) { cls := .type "tuple", data := .seq (([] : List Value).toArray) } ((Heap.get?_update_other _ _ (Ne.symm hb)).trans hg)
  rw [Heap.get?_update_other _ _ (Nat.ne_of_gt (Heap.lt_size k1))]
  exact Heap.get?_push_of_some _ k1
theorem walks_tuple_M (hh : A.handled = some (.ref e)) (I ax : Addr) (hne : ax ≠ I) (heI : I ≠ e) (items : Array Value) :
    Walks prog w A I [I, ax, e] [I] items.size (fun i v => items[i]? = some v) (fun i h => (h.IsTupleIter I ax i ∧ h.IsTuple ax items) ∧ HM e h) where
  sub := fun b hb => by simp at hb; simp [hb]
  frame := fun _ _ _ st hk => ⟨⟨st.1.1.at fun o e => hk I (by simp) o e, st.1.2.at fun o e => hk ax (by simp) o e⟩, by
    obtain ⟨o, vs, z, zz⟩ := st.2
    exact ⟨o, vs, hk e (by simp) o z, zz⟩⟩
  item := fun i s Q E hi st hQ => by
    refine wpAny_pyNext_tuple_item st.1.1 st.1.2 (x := items[i]) (by simp [hi]) fun h' hit' hs' => ?_
    refine hQ _ h' s.toks (by simp [hi]) ⟨⟨hit', st.1.2.extBut hs'.extBut hne⟩, ?_⟩ fun b o hb e => hs'.extBut b o (fun h => hb (by simp [h])) e
    obtain ⟨o, vs, z, zz⟩ := st.2
    exact ⟨o, vs, (hs'.2 _ (Ne.symm heI)).trans z, zz⟩
  done := fun s Q E st hQ => next_end_M hh st.2 heI st.1.1 st.1.2 (by simp) fun h' he' => hQ h' s.toks fun b o hb e => he' b o (fun h => hb (by simp [h])) e
  self := fun _ _ _ _ st hQ => wpAny_pyIter_tupleiter st.1.1 hQ
theorem max_M {a b : Int} {t u : Tok} {Q : Value → Shared → Prop} {h₀ : Heap} {L : Addr} {m : Str → Option Value} {news : List (Addr × Obj)} (hh : A.handled = some (.ref e)) (F : Fr h₀ L s.heap m) (N : News h₀ L s.heap news) (hM : HM e s.heap)
    (h : ∀ c tc h' tk, Fr h₀ L h' m → News h₀ L h' news → Q (.int c tc) { s with heap := h', toks := tk }) :
    wpAny (model prog w) A (call (.builtin "max") [.int a t, .int b u]) Q E s := by
  have hT : (s.heap.push { cls := .type "tuple", data := .seq #[.int a t, .int b u] }).IsTuple s.heap.objs.size (intItems #[(a, t), (b, u)]) := ⟨_, Heap.get?_push_size _ rfl, rfl, 0, by simp [intItems]⟩
  have hM' := hM
  obtain ⟨oe, ve, me1, me2⟩ := hM'
  have hlt := Heap.lt_size me1
  refine call_max_two (wpAny_pyIter_tuple hT ?_)
  have hsz : (s.heap.push { cls := .type "tuple", data := .seq #[.int a t, .int b u] }).objs.size = s.heap.objs.size + 1 := Heap.size_push ..
  refine ⟨_, [_, s.heap.objs.size, e], [_], _, _, _, _, rfl, walks_tuple_M (A := A.in1) hh _ s.heap.objs.size (by rw [hsz]; exact Nat.ne_of_lt (Nat.lt_succ_self _)) (by rw [hsz]; exact Nat.ne_of_gt (Nat.lt_succ_of_lt hlt)) (intItems #[(a, t), (b, u)]),
    ⟨⟨⟨_, Heap.get?_push_size _ rfl, rfl, rfl⟩, hT.push _⟩, ⟨oe, ve, Heap.get?_push_of_some _ (Heap.get?_push_of_some _ me1), me2⟩⟩, fun c hc => ?_, by simp [intItems], CmpOf.ints_gt (numAt #[(a, t), (b, u)]) (fun _ _ => intItems_at), fun v h' tk hP hk => ?_⟩
  · show c < ((s.heap.push _).push _).objs.size
    rw [Heap.size_push, hsz]
    rcases List.mem_cons.mp hc with rfl | hc
    · rw [hsz]; exact Nat.lt_succ_self _
    · rcases List.mem_cons.mp hc with rfl | hc
      · exact Nat.lt_succ_of_lt (Nat.lt_succ_self _)
      · rcases List.mem_cons.mp hc with rfl | hc
        · exact Nat.lt_succ_of_lt (Nat.lt_succ_of_lt hlt)
        · cases hc
  · have hold : ∀ c o, s.heap.get? c = some o → h'.get? c = some o := fun c o e => by
      refine hk c o (fun hm => ?_) (Heap.get?_push_of_some _ (Heap.get?_push_of_some _ e))
      rcases List.mem_cons.mp hm with e1 | hm
      · have := Heap.lt_size e; rw [e1, hsz] at this; exact Nat.lt_irrefl _ (Nat.lt_of_succ_lt this)
      · cases hm
    obtain ⟨c, tc, rfl⟩ : ∃ c tc, v = .int c tc := by
      obtain ⟨tc, z⟩ := intItems_at hP
      exact ⟨_, tc, z⟩
    exact h c tc h' tk (F.grownK hold) (N.grown hold)
end
end Mine
end
section
set_option maxRecDepth 100000
namespace Mine
open PySem PySem.W PyProof.Rows
/-- the sign at a place, -1 behind the end -/
noncomputable def pk (ks : List Int) (i : Nat) : Int := ks.getD i (-1)
theorem pk_lt {ks : List Int} {i : Nat} (h : i < ks.length) : pk ks i = ks.getD i 0 := by
  unfold pk; rw [List.getD_eq_getElem?_getD, List.getD_eq_getElem?_getD, List.getElem?_eq_getElem h]; rfl
theorem pk_ge {ks : List Int} {i : Nat} (h : ks.length ≤ i) : pk ks i = -1 := by
  unfold pk; rw [List.getD_eq_getElem?_getD, List.getElem?_eq_none h]; rfl
theorem clip_in {n : Nat} {i : Int} (h0 : 0 ≤ i) (h1 : i ≤ n) : clipAt n i = i.toNat := by
  unfold clipAt
  split <;> omega
theorem skip_cmp {ks : List Int} {at_ : Int} {p : Array UInt8} {c : UInt8} (hK : KBw.bInts p = List.take (clipAt ks.length (at_ + 1) - clipAt ks.length at_) (List.drop (clipAt ks.length at_) ks)) (h0 : 0 ≤ at_) (hl : at_ ≤ ks.length) :
    (p.toList != [c]) = !decide (pk ks at_.toNat = (c.toNat : Int)) := by
  have h2 : (p.toList = [c]) ↔ KBw.bInts p = [(c.toNat : Int)] := by
    unfold KBw.bInts
    constructor
    · intro h; rw [h]; rfl
    · intro h
      cases hp : p.toList with
      | nil => rw [hp] at h; cases h
      | cons u r =>
        rw [hp, List.map_cons] at h
        cases r with
        | nil =>
          have : (u.toNat : Int) = c.toNat := by simpa using h
          have : u.toNat = c.toNat := by omega
          rw [UInt8.toNat_inj.mp this]
        | cons v r => exact absurd (congrArg List.length h) (by simp)
  have h3 : KBw.bInts p = [(c.toNat : Int)] ↔ pk ks at_.toNat = (c.toNat : Int) := by
    rw [hK, clip_in h0 hl]
    by_cases hlt : at_.toNat < ks.length
    · rw [clip_in (by omega) (by omega), show (at_ + 1).toNat - at_.toNat = 1 by omega, List.drop_eq_getElem_cons hlt, pk_lt hlt, List.take_succ_cons, List.take_zero, List.getD_eq_getElem?_getD, List.getElem?_eq_getElem hlt]
      simp
    · rw [List.drop_eq_nil_of_le (by omega), pk_ge (by omega), List.take_nil]
      constructor
      · intro h; cases h
      · intro h; exfalso; omega
  by_cases h : pk ks at_.toNat = (c.toNat : Int)
  · rw [decide_eq_true h, h2.mpr (h3.mpr h)]; simp
  · rw [decide_eq_false h]
    have : p.toList ≠ [c] := fun q => h (h3.mp (h2.mp q))
    simpa using this
end Mine
end
section
namespace Mine
open PySem PySem.W PyProof.Rows
/-- a letter's code -/
noncomputable def isL (k : Int) : Bool := (decide (65 ≤ k) && decide (k ≤ 90)) || (decide (97 ≤ k) && decide (k ≤ 122))
/-- a code of a set of numbers -/
noncomputable def isS (k : Int) : Bool := (decide (48 ≤ k) && decide (k ≤ 57)) || (decide (k = 58) || decide (k = 44) || decide (k = 42))
/-- what a run takes -/
noncomputable def took (p : Int → Bool) (ks : List Int) (i : Nat) : List Int := (ks.drop i).takeWhile p
theorem took_of {p : Int → Bool} : ∀ {ks : List Int} {i j : Nat}, i ≤ j → j ≤ ks.length → (∀ l, i ≤ l → l < j → p (ks.getD l 0) = true) → (j < ks.length → p (ks.getD j 0) = false) → took p ks i = (ks.drop i).take (j - i) := by
  intro ks i j
  obtain ⟨n, hn⟩ : ∃ n, n = j - i := ⟨_, rfl⟩
  induction n generalizing i with
  | zero =>
    intro h1 h2 h3 h4
    have : i = j := by omega
    subst this
    unfold took
    rw [Nat.sub_self, List.take_zero]
    by_cases hl : i < ks.length
    · rw [List.drop_eq_getElem_cons hl, List.takeWhile_cons, if_neg]
      have := h4 hl
      rw [List.getD_eq_getElem?_getD, List.getElem?_eq_getElem hl] at this
      simpa using this
    · rw [List.drop_eq_nil_of_le (by omega)]; rfl
  | succ n ih =>
    intro h1 h2 h3 h4
    have hl : i < ks.length := by omega
    have := ih (i := i + 1) (by omega) (by omega) h2 (fun l a b => h3 l (by omega) b) h4
    unfold took at this ⊢
    rw [List.drop_eq_getElem_cons hl, List.takeWhile_cons, show j - i = (j - (i + 1)) + 1 by omega, List.take_succ_cons, ← this, if_pos]
    have := h3 i (Nat.le_refl _) (by omega)
    rw [List.getD_eq_getElem?_getD, List.getElem?_eq_getElem hl] at this
    simpa using this
theorem took_length {p : Int → Bool} {ks : List Int} {i j : Nat} (h1 : i ≤ j) (h2 : j ≤ ks.length) (h : took p ks i = (ks.drop i).take (j - i)) : i + (took p ks i).length = j := by
  rw [h, List.length_take, List.length_drop]; omega
theorem took_le {p : Int → Bool} {ks : List Int} {i : Nat} (h : i ≤ ks.length) : i + (took p ks i).length ≤ ks.length := by
  have := (List.takeWhile_sublist (p := p) (l := ks.drop i)).length_le
  rw [List.length_drop] at this
  unfold took; omega
theorem took_all {p : Int → Bool} {ks : List Int} {i : Nat} : ∀ k ∈ took p ks i, p k = true := by
  intro k hk
  unfold took at hk
  generalize ks.drop i = l at hk
  induction l with
  | nil => cases hk
  | cons a r ih =>
    rw [List.takeWhile_cons] at hk
    split at hk
    · rename_i h
      rcases List.mem_cons.mp hk with rfl | hk
      · exact h
      · exact ih hk
    · cases hk
theorem took_mem {p : Int → Bool} {ks : List Int} {i : Nat} : ∀ k ∈ took p ks i, k ∈ ks := fun k hk => List.mem_of_mem_drop ((List.takeWhile_sublist (p := p) (l := ks.drop i)).mem hk)
end Mine
end
section
set_option Elab.async false
set_option maxRecDepth 100000
set_option maxHeartbeats 4000000
namespace Mine
open PySem PySem.W PySem.Spec PySem.Calls PyProof.Rows PyProof PyProof.Rows.LCg
inductive All2 {α β : Type} (R : α → β → Prop) : List α → List β → Prop
  | nil : All2 R [] []
  | cons {a b as bs} : R a b → All2 R as bs → All2 R (a :: as) (b :: bs)
theorem All2.snoc {α β : Type} {R : α → β → Prop} {as : List α} {bs : List β} {a : α} {b : β} (h : All2 R as bs) (r : R a b) : All2 R (as ++ [a]) (bs ++ [b]) := by
  induction h with
  | nil => exact .cons r .nil
  | cons q _ ih => exact .cons q ih
section
variable {prog : Program} {w : World} {A : Around} {E : Value → Shared → Prop} {s : Shared} {h₀ : Heap} {L : Addr} {m : Str → Option Value} {env : Env}
/-- one element of a comprehension that makes nothing that it keeps -/
noncomputable def EltEnd (h₀ : Heap) (L : Addr) (m : Str → Option Value) (s₁ : Shared) (ledger : List (Addr × Obj)) (res : Value → Prop) (y : Value) (s₂ : Shared) : Prop :=
  ∃ h' tk, s₂ = { s₁ with heap := h', toks := tk } ∧ Fr h₀ L h' m ∧ News h₀ L h' ledger ∧ res y
theorem comp_rest {α : Type} {elt : Expr} {x : Str} {scope : Scope} {cl : List (Str × Addr)} {P : Nat → Value → Prop} {Fin : List Value → List (Addr × Obj) → Prop} {n : Nat} {news : List (Addr × Obj)}
    {as : List α} {isv : α → Value → Prop} {res : α → Value → Prop} (hn : as.length = n) (hP : ∀ i v, i < n → P i v → ∃ a, as[i]? = some a ∧ isv a v)
    (turn : ∀ a v I oI C oC D m₂ ys h tk (E' : Value → Shared → Prop), a ∈ as → isv a v → NsObj oC m₂ → m₂ x = some v → Fr h₀ L h m → News h₀ L h ((I, oI) :: (C, oC) :: (D, lst ys) :: news) → Off3 I C D news → ((@Ne Nat I C) ∧ (@Ne Nat I D) ∧ (@Ne Nat C D)) →
      wpAny (model prog w) A (eval elt (compEnvC scope cl C env)) (EltEnd h₀ L m { s with heap := h, toks := tk } ((I, oI) :: (C, oC) :: (D, lst ys) :: news) (res a)) E' { s with heap := h, toks := tk })
    (fin : ∀ ys, All2 res as ys → Fin ys news) : CompRest prog w A h₀ L m env elt x scope cl s (fun _ => True) P Fin n 0 [] news := by
  have key : ∀ (j i : Nat) (ys : List Value), i + j = n → All2 res (as.take i) ys → CompRest prog w A h₀ L m env elt x scope cl s (fun _ => True) P Fin j i ys news := by
    intro j
    induction j with
    | zero =>
      intro i ys hi hy
      have e : i = as.length := by omega
      subst e
      rw [List.take_length] at hy
      exact CompRest.zero (fin ys hy)
    | succ j ih =>
      intro i ys hi hy
      refine CompRest.succ ?_
      intro v I oI C oC D m₂ h tk E' hv hC hx F N off ne
      obtain ⟨a, ha, hav⟩ := hP i v (by omega) hv
      refine wpAny_mono (turn a v I oI C oC D m₂ ys h tk E' (List.mem_of_getElem? ha) hav hC hx F N off ne) (fun y s₂ hq => ?_) fun _ _ e => e
      obtain ⟨h', tk', e, F', N', hr⟩ := hq
      refine ⟨h', tk', news, e, F', N', off, trivial, ih (i + 1) _ (by omega) ?_⟩
      rw [List.take_add_one, ha]
      exact hy.snoc hr
  exact key n 0 [] (by omega) (by rw [List.take_zero]; exact .nil)
noncomputable def SrcB (prog : Program) (w : World) (A : Around) (h₀ : Heap) (L : Addr) (m : Str → Option Value) (env : Env) (elt : Expr) (x : Str) (scope : Scope) (cl : List (Str × Addr)) (Fin : Shared → List Value → List (Addr × Obj) → Prop) (xv : Value) (s₁ : Shared) : Prop :=
  ∃ b t news, xv = .bytes b t ∧ A.handled = none ∧ Fr h₀ L s₁.heap m ∧ News h₀ L s₁.heap news ∧ b.size ≤ sizeLine ∧
    ∀ g, CompRest prog w A h₀ L m env elt x scope cl { s₁ with heap := g } (fun _ => True) (fun i v => ∃ c u, b[i]? = some c ∧ v = .int (c.toNat : Int) u) (Fin { s₁ with heap := g }) b.size 0 [] news
noncomputable def SrcS (prog : Program) (w : World) (A : Around) (h₀ : Heap) (L : Addr) (m : Str → Option Value) (env : Env) (elt : Expr) (x : Str) (scope : Scope) (cl : List (Str × Addr)) (Fin : Shared → List Value → List (Addr × Obj) → Prop) (xv : Value) (s₁ : Shared) : Prop :=
  ∃ u t news, xv = .str u t ∧ A.handled = none ∧ Fr h₀ L s₁.heap m ∧ News h₀ L s₁.heap news ∧ u.cps.size ≤ sizeLine ∧
    ∀ g, CompRest prog w A h₀ L m env elt x scope cl { s₁ with heap := g } (fun _ => True) (SignAt u) (Fin { s₁ with heap := g }) u.cps.size 0 [] news
theorem ListComp_B {elt iter : Expr} {x : Str} {px : Pos} {scope : Scope} {cl : List (Str × Addr)} {pos : Pos} {Q : Value → Shared → Prop} (F₀ : Fr h₀ L s.heap m)
    (hclos : closureFor scope env = pure cl) (hcell : ∀ y ∈ scope.names, y.2 ≠ .cell) (hkind : scope.kind = .function)
    (hnames : ∀ y ∈ scope.names, y.2 = .local → scope.names.lookup y.1 = some .local) (hx : scope.names.lookup x = some .local)
    (h : wpAny (model prog w) A (eval iter env) (SrcB prog w A h₀ L m env elt x scope cl (fun s₂ => FinE h₀ L m s₂ Q)) E s)
    (hs : ∀ x, foldedSetIterable iter env x = pure x := by intro _; rfl) :
    wpAny (model prog w) A (eval (.ListComp elt [⟨.Name x px, iter, [], 0⟩] scope pos) env) Q E s := by
  rw [eval_ListComp]
  refine wpAny_comprehension_free (use := none) rfl hs hclos hkind hnames (wpAny_mono h (fun xv s₁ h₁ => ?_) fun _ _ e => e)
  obtain ⟨b, t, news, rfl, hh, F, N, hsz, R⟩ := h₁
  refine KBw.pyIter_bytes ?_
  have up : ∀ a o, s₁.heap.get? a = some o → (s₁.heap.push { cls := .type "bytes_iterator", data := .fields #[.bytes b t, .int 0 0] }).get? a = some o := fun a o e => Heap.get?_push_of_some _ e
  refine block_U (KBw.walks hh s₁.heap.objs.size b t) hsz (fun i h st => by obtain ⟨o, e, _⟩ := st; exact ⟨o, e⟩) (fun i h h' o nw st e e' _ _ _ => by obtain ⟨o', q, r⟩ := st; rw [e] at q; cases q; exact ⟨o, e', r⟩) hcell hkind hx ⟨_, Heap.get?_push_size _ rfl, rfl, rfl⟩ (fun a ha => ?_)
    (F.keeps up) (N.grown up) (Nat.ne_of_lt F.ns.lt) (next_is_new F) (fun p hp => Nat.ne_of_lt (Heap.lt_size (N p hp).1)) trivial (R _) ?_
  · rw [List.mem_singleton.mp ha]
    show s₁.heap.objs.size < (s₁.heap.push _).objs.size
    rw [Heap.size_push]; exact Nat.lt_succ_self _
  · intro D C h tk m' ys news' F' N' o1 hn hC₀ hD₀ hCL hDL hCD offC fin
    refine ⟨m', hn, fun h'' hs'' => fin D h'' tk (F'.change hs'' hCL hC₀) (fun p hp => ?_) o1⟩
    refine ⟨hs''.extBut _ _ ?_ (N' p hp).1, (N' p hp).2⟩
    rcases List.mem_cons.mp hp with rfl | hp
    · exact Ne.symm hCD
    · exact offC p hp
theorem ListComp_S {elt iter : Expr} {x : Str} {px : Pos} {scope : Scope} {cl : List (Str × Addr)} {pos : Pos} {Q : Value → Shared → Prop} (F₀ : Fr h₀ L s.heap m)
    (hclos : closureFor scope env = pure cl) (hcell : ∀ y ∈ scope.names, y.2 ≠ .cell) (hkind : scope.kind = .function)
    (hnames : ∀ y ∈ scope.names, y.2 = .local → scope.names.lookup y.1 = some .local) (hx : scope.names.lookup x = some .local)
    (h : wpAny (model prog w) A (eval iter env) (SrcS prog w A h₀ L m env elt x scope cl (fun s₂ => FinE h₀ L m s₂ Q)) E s)
    (hs : ∀ x, foldedSetIterable iter env x = pure x := by intro _; rfl) :
    wpAny (model prog w) A (eval (.ListComp elt [⟨.Name x px, iter, [], 0⟩] scope pos) env) Q E s := by
  rw [eval_ListComp]
  refine wpAny_comprehension_free (use := none) rfl hs hclos hkind hnames (wpAny_mono h (fun xv s₁ h₁ => ?_) fun _ _ e => e)
  obtain ⟨u, t, news, rfl, hh, F, N, hsz, R⟩ := h₁
  cases ha : u.cps.all (· < 128)
  · refine wpAny_pyIter_wide ha ?_
    have up : ∀ a o, s₁.heap.get? a = some o → (s₁.heap.push { cls := .type "str_iterator", data := .fields #[.str u t, .int 0 0] }).get? a = some o := fun a o e => Heap.get?_push_of_some _ e
    refine block_U (Walks.strWide hh s₁.heap.objs.size u t) hsz (fun i h st => by obtain ⟨o, e, _⟩ := st; exact ⟨o, e⟩) (fun i h h' o nw st e e' _ _ _ => by obtain ⟨o', q, r⟩ := st; rw [e] at q; cases q; exact ⟨o, e', r⟩) hcell hkind hx ⟨_, Heap.get?_push_size _ rfl, rfl, rfl⟩ (fun a ha => ?_)
      (F.keeps up) (N.grown up) (Nat.ne_of_lt F.ns.lt) (next_is_new F) (fun p hp => Nat.ne_of_lt (Heap.lt_size (N p hp).1)) trivial (R _) ?_
    · rw [List.mem_singleton.mp ha]
      show s₁.heap.objs.size < (s₁.heap.push _).objs.size
      rw [Heap.size_push]; exact Nat.lt_succ_self _
    · intro D C h tk m' ys news' F' N' o1 hn hC₀ hD₀ hCL hDL hCD offC fin
      refine ⟨m', hn, fun h'' hs'' => fin D h'' tk (F'.change hs'' hCL hC₀) (fun p hp => ?_) o1⟩
      refine ⟨hs''.extBut _ _ ?_ (N' p hp).1, (N' p hp).2⟩
      rcases List.mem_cons.mp hp with rfl | hp
      · exact Ne.symm hCD
      · exact offC p hp
  · refine wpAny_pyIter_ascii ha ?_
    have up : ∀ a o, s₁.heap.get? a = some o → (s₁.heap.push { cls := .type "str_ascii_iterator", data := .fields #[.str u t, .int 0 0] }).get? a = some o := fun a o e => Heap.get?_push_of_some _ e
    refine block_U (Walks.strAscii hh s₁.heap.objs.size u t) hsz (fun i h st => by obtain ⟨o, e, _⟩ := st; exact ⟨o, e⟩) (fun i h h' o nw st e e' _ _ _ => by obtain ⟨o', q, r⟩ := st; rw [e] at q; cases q; exact ⟨o, e', r⟩) hcell hkind hx ⟨_, Heap.get?_push_size _ rfl, rfl, rfl⟩ (fun a ha => ?_)
      (F.keeps up) (N.grown up) (Nat.ne_of_lt F.ns.lt) (next_is_new F) (fun p hp => Nat.ne_of_lt (Heap.lt_size (N p hp).1)) trivial (R _) ?_
    · rw [List.mem_singleton.mp ha]
      show s₁.heap.objs.size < (s₁.heap.push _).objs.size
      rw [Heap.size_push]; exact Nat.lt_succ_self _
    · intro D C h tk m' ys news' F' N' o1 hn hC₀ hD₀ hCL hDL hCD offC fin
      refine ⟨m', hn, fun h'' hs'' => fin D h'' tk (F'.change hs'' hCL hC₀) (fun p hp => ?_) o1⟩
      refine ⟨hs''.extBut _ _ ?_ (N' p hp).1, (N' p hp).2⟩
      rcases List.mem_cons.mp hp with rfl | hp
      · exact Ne.symm hCD
      · exact offC p hp
/-- the codes' text -/
noncomputable def strOf (ks : List Int) : Str := ⟨(ks.map Int.toNat).toArray⟩
theorem SrcB.intro {elt : Expr} {x : Str} {scope : Scope} {cl : List (Str × Addr)} {Fin : Shared → List Value → List (Addr × Obj) → Prop} {b : Array UInt8} {t : Tok} {ks : List Int} {news : List (Addr × Obj)} {s₁ : Shared} {res : Int → Value → Prop}
    (hh : A.handled = none) (F : Fr h₀ L s₁.heap m) (N : News h₀ L s₁.heap news) (hb : KBw.bInts b = ks) (hsz : ks.length ≤ 10000)
    (turn : ∀ k t I oI C oC D m₂ ys h tk (E' : Value → Shared → Prop), k ∈ ks → NsObj oC m₂ → m₂ x = some (.int k t) → Fr h₀ L h m → News h₀ L h ((I, oI) :: (C, oC) :: (D, lst ys) :: news) → Off3 I C D news → ((@Ne Nat I C) ∧ (@Ne Nat I D) ∧ (@Ne Nat C D)) →
      wpAny (model prog w) A (eval elt (compEnvC scope cl C env)) (EltEnd h₀ L m { s₁ with heap := h, toks := tk } ((I, oI) :: (C, oC) :: (D, lst ys) :: news) (res k)) E' { s₁ with heap := h, toks := tk })
    (fin : ∀ g ys, All2 res ks ys → Fin { s₁ with heap := g } ys news) :
    SrcB prog w A h₀ L m env elt x scope cl Fin (.bytes b t) s₁ := by
  subst hb
  refine ⟨b, t, news, rfl, hh, F, N, ?_, fun g => ?_⟩
  · rw [← KBw.ints_length b]; exact Nat.le_trans hsz (by rw [sizeLine_eq]; omega)
  · refine comp_rest (as := KBw.bInts b) (isv := fun k v => ∃ t, v = .int k t) (res := res) (KBw.ints_length b) (fun i v hi hv => ?_) (fun k v I oI C oC D m₂ ys h tk E' hk hv hC hx F N off ne => ?_) (fin g)
    · obtain ⟨c, u, hc, rfl⟩ := hv
      exact ⟨_, KBw.ints_get hc, u, rfl⟩
    · obtain ⟨t, rfl⟩ := hv
      exact turn k t I oI C oC D m₂ ys h tk E' hk hC hx F N off ne
theorem SrcS.intro {elt : Expr} {x : Str} {scope : Scope} {cl : List (Str × Addr)} {Fin : Shared → List Value → List (Addr × Obj) → Prop} {t : Tok} {ks : List Int} {news : List (Addr × Obj)} {s₁ : Shared} {res : Int → Value → Prop}
    (hh : A.handled = none) (F : Fr h₀ L s₁.heap m) (N : News h₀ L s₁.heap news) (hnn : ∀ k ∈ ks, 0 ≤ k) (hsz : ks.length ≤ 10000)
    (turn : ∀ k t I oI C oC D m₂ ys h tk (E' : Value → Shared → Prop), k ∈ ks → NsObj oC m₂ → m₂ x = some (.str ⟨#[k.toNat]⟩ t) → Fr h₀ L h m → News h₀ L h ((I, oI) :: (C, oC) :: (D, lst ys) :: news) → Off3 I C D news → ((@Ne Nat I C) ∧ (@Ne Nat I D) ∧ (@Ne Nat C D)) →
      wpAny (model prog w) A (eval elt (compEnvC scope cl C env)) (EltEnd h₀ L m { s₁ with heap := h, toks := tk } ((I, oI) :: (C, oC) :: (D, lst ys) :: news) (res k)) E' { s₁ with heap := h, toks := tk })
    (fin : ∀ g ys, All2 res ks ys → Fin { s₁ with heap := g } ys news) :
    SrcS prog w A h₀ L m env elt x scope cl Fin (.str (strOf ks) t) s₁ := by
  have hl : (strOf ks).cps.size = ks.length := by unfold strOf; simp
  refine ⟨strOf ks, t, news, rfl, hh, F, N, ?_, fun g => ?_⟩
  · rw [hl]; exact Nat.le_trans hsz (by rw [sizeLine_eq]; omega)
  · refine comp_rest (as := ks) (isv := fun k v => ∃ t, v = .str ⟨#[k.toNat]⟩ t) (res := res) hl.symm (fun i v hi hv => ?_) (fun k v I oI C oC D m₂ ys h tk E' hk hv hC hx F N off ne => ?_) (fin g)
    · obtain ⟨c, u, hc, rfl⟩ := hv
      unfold strOf at hc
      simp only [List.getElem?_toArray, List.getElem?_map, Option.map_eq_some_iff] at hc
      obtain ⟨k, hk, rfl⟩ := hc
      exact ⟨k, hk, u, rfl⟩
    · obtain ⟨t, rfl⟩ := hv
      exact turn k t I oI C oC D m₂ ys h tk E' hk hC hx F N off ne
end
end Mine
end
section
set_option Elab.async false
set_option maxRecDepth 100000
set_option maxHeartbeats 4000000
namespace Mine
open PySem PySem.W PySem.Spec PySem.Calls PyProof.Rows PyProof
section
variable {prog : Program} {w : World} {A : Around} {E : Value → Shared → Prop} {s : Shared} {env : Env} {h₀ : Heap} {x : Str} {body : List Stmt} {Q : Flow → Shared → Prop}
/-- a loop over a range that keeps the frame (but its own name) and the ledger -/
theorem range_nothing {r : Addr} {a₀ b₀ : Int} {t₀ u₀ v₀ : Tok} {n : Nat} {m₀ : Str → Option Value} {news : List (Addr × Obj)}
    (hh : A.handled = none) (hr : IsRange s.heap r a₀ b₀ 1 t₀ u₀ v₀) (hsmall : Builtin.Range.small a₀ b₀ 1 = true) (hn : Builtin.Range.rangeSize a₀ b₀ 1 = (n : Int)) (F : Fr h₀ env.locals s.heap m₀) (N : News h₀ env.locals s.heap news)
    (turn : ∀ k t h tk own, a₀ ≤ k → k < a₀ + (n : Int) → OwnOff own (news.map (·.1)) → Fr h₀ env.locals h (fun z => if z = x then some (.int k t) else m₀ z) → News h₀ env.locals h (news ++ own) →
      wpAny (model prog w) A (execs body env) (InvPostN h₀ env.locals (fun m' nx => nx = news ∧ ∀ z, z ≠ x → m' z = m₀ z) own (news.map (·.1)) { s with heap := h, toks := tk } Q) E { s with heap := h, toks := tk })
    (done : ∀ (u : Str → Option Value) h tk, Fr h₀ env.locals h (fun z => if z = x then u z else m₀ z) → News h₀ env.locals h news → Q .next { s with heap := h, toks := tk }) :
    wpAny (model prog w) A (pyIter (.ref r)) (fun it s₂ => LoopAtV prog w A h₀ env x body Q E it s₂) E s := by
  refine iter_rangeS (σ := Unit) (fun _ m nx => nx = news ∧ ∀ z, z ≠ x → m z = m₀ z) (fun _ _ => ()) () hh hr hsmall hn F N ⟨rfl, fun _ _ => rfl⟩ ?_ ?_
  · rintro k t a m₁ nx h tk own hk hoff ⟨rfl, hm⟩ F₁ N₁
    have e : (fun z => if z = x then some (Value.int k t) else m₁ z) = fun z => if z = x then some (Value.int k t) else m₀ z := by
      funext z
      by_cases h1 : z = x
      · simp [h1]
      · simp only [if_neg h1]; exact hm z h1
    rw [e] at F₁
    exact turn k t h tk own (mem_rangeKs hk).1 (mem_rangeKs hk).2 hoff F₁ N₁
  · rintro m₁ nx h tk ⟨rfl, hm⟩ F₁ N₁
    refine done m₁ h tk ?_ N₁
    have e : (fun z => if z = x then m₁ z else m₀ z) = m₁ := by
      funext z
      by_cases h1 : z = x
      · simp [h1]
      · simp only [if_neg h1]; exact (hm z h1).symm
    rw [e]; exact F₁
end
end Mine
end
section
namespace Mine
open PySem PySem.W PyProof.Rows PyProof
theorem join_sing {f : Int → Nat} {ks : List Int} : Txt.join (Str.ofString "") (ks.map fun k => (⟨#[f k]⟩ : Str)) = ⟨(ks.map f).toArray⟩ := by
  show Builtin.Str.glued _ _ = _
  rw [StrLaws.glued_eq_join]
  have hz : (Str.ofString "").cps = #[] := by decide
  have e : ∀ l : List Int, (Str.join (Str.ofString "") (l.map fun k => (⟨#[f k]⟩ : Str))).cps.toList = l.map f := by
    intro l
    induction l with
    | nil => rfl
    | cons k r ih =>
      cases r with
      | nil => rfl
      | cons j r =>
        rw [List.map_cons, List.map_cons]
        show ((⟨#[f k]⟩ : Str) ++ Str.ofString "" ++ Str.join (Str.ofString "") ((⟨#[f j]⟩ : Str) :: r.map fun k => (⟨#[f k]⟩ : Str))).cps.toList = _
        rw [List.map_cons] at ih
        rw [Str.cps_append, Str.cps_append, hz, Array.toList_append, Array.toList_append, ih]
        simp
  have h2 : (Str.join (Str.ofString "") (ks.map fun k => (⟨#[f k]⟩ : Str))).cps = (ks.map f).toArray := by
    rw [← e ks]
  exact congrArg Str.mk h2
/-- the upper letter -/
noncomputable def upL (k : Int) : Int := if 97 ≤ k ∧ k ≤ 122 then k - 32 else k
theorem strOf_map {g : Int → Int} {ks : List Int} : strOf (ks.map g) = ⟨(ks.map fun k => (g k).toNat).toArray⟩ := by
  unfold strOf; rw [List.map_map]; rfl
theorem strOf_length {ks : List Int} : (strOf ks).length = ks.length := by
  unfold strOf Str.length; simp
theorem sing_lt {a b : Nat} : ([a] : List Nat) < [b] ↔ a < b := by
  rw [List.cons_lt_cons_iff]
  constructor
  · rintro (h | ⟨_, h⟩)
    · exact h
    · exact absurd h (List.not_lt_nil _)
  · exact .inl
theorem lt_a {k : Nat} : ((⟨#[k]⟩ : Str).cps.toList < (Str.ofString "a").cps.toList) ↔ k < 97 := by
  rw [show (Str.ofString "a").cps.toList = [97] by decide]; exact sing_lt
theorem z_lt {k : Nat} : ((Str.ofString "z").cps.toList < (⟨#[k]⟩ : Str).cps.toList) ↔ 122 < k := by
  rw [show (Str.ofString "z").cps.toList = [122] by decide]; exact sing_lt
theorem upL_not {k : Int} (h0 : 0 ≤ k) (h : k.toNat < 97 ∨ 122 < k.toNat) : (upL k).toNat = k.toNat := by
  unfold upL; rw [if_neg (by omega)]
theorem upL_yes {k : Int} (h : ¬ k.toNat < 97) (h' : ¬ 122 < k.toNat) : (upL k).toNat = ((k.toNat : Int) - 32).toNat := by
  unfold upL; rw [if_pos (by omega)]; omega
end Mine
end
section
namespace Mine
open PySem PySem.W PyProof.Rows PyProof
theorem item_of {ks : List Int} {i : Int} (h0 : 0 ≤ i) (h1 : i < ks.length) : Txt.item (strOf ks) i = ⟨#[(pk ks i.toNat).toNat]⟩ := by
  rw [item_at (n := i.toNat) h0 (by rw [strOf_length]; exact h1) rfl, pk_lt (by omega)]
  have hl : i.toNat < ks.length := by omega
  unfold strOf
  congr 2
  simp only [Array.getD_eq_getD_getElem?, List.getElem?_toArray, List.getElem?_map, List.getD_eq_getElem?_getD, List.getElem?_eq_getElem hl, Option.map_some, Option.getD_some]
theorem pk_lo {ks : List Int} {i : Nat} (hlo : ∀ k ∈ ks, 0 ≤ k ∧ k < (128 : Int)) (h : i < ks.length) : 0 ≤ pk ks i ∧ pk ks i < 128 := by
  unfold pk
  rw [List.getD_eq_getElem?_getD, List.getElem?_eq_getElem h]
  exact hlo _ (List.getElem_mem h)
theorem one_eq {k : Int} {c : Nat} (h0 : 0 ≤ k) : ((⟨#[k.toNat]⟩ : Str) == ⟨#[c]⟩) = decide (k = c) := by
  rw [Bool.eq_iff_iff, beq_iff_eq, decide_eq_true_eq]
  constructor
  · intro h
    have := congrArg Str.cps h
    simp at this
    omega
  · intro h; subst h; rfl
theorem item_star {ks : List Int} {i : Int} (hlo : ∀ k ∈ ks, 0 ≤ k ∧ k < (128 : Int)) (h0 : 0 ≤ i) (h1 : i < ks.length) : (Txt.item (strOf ks) i == Str.ofString "*") = decide (pk ks i.toNat = 42) := by
  rw [item_of h0 h1]; exact one_eq (pk_lo hlo (by omega)).1
theorem item_nought {ks : List Int} {i : Int} (hlo : ∀ k ∈ ks, 0 ≤ k ∧ k < (128 : Int)) (h0 : 0 ≤ i) (h1 : i < ks.length) : (Txt.item (strOf ks) i == Str.ofString "0") = decide (pk ks i.toNat = 48) := by
  rw [item_of h0 h1]; exact one_eq (pk_lo hlo (by omega)).1
theorem item_colon {ks : List Int} {i : Int} (hlo : ∀ k ∈ ks, 0 ≤ k ∧ k < (128 : Int)) (h0 : 0 ≤ i) (h1 : i < ks.length) : (Txt.item (strOf ks) i == Str.ofString ":") = decide (pk ks i.toNat = 58) := by
  rw [item_of h0 h1]; exact one_eq (pk_lo hlo (by omega)).1
theorem item_comma {ks : List Int} {i : Int} (hlo : ∀ k ∈ ks, 0 ≤ k ∧ k < (128 : Int)) (h0 : 0 ≤ i) (h1 : i < ks.length) : (Txt.item (strOf ks) i == Str.ofString ",") = decide (pk ks i.toNat = 44) := by
  rw [item_of h0 h1]; exact one_eq (pk_lo hlo (by omega)).1
theorem item_lt0 {ks : List Int} {i : Int} (hlo : ∀ k ∈ ks, 0 ≤ k ∧ k < (128 : Int)) (h0 : 0 ≤ i) (h1 : i < ks.length) : ((Txt.item (strOf ks) i).cps.toList < (Str.ofString "0").cps.toList) ↔ pk ks i.toNat < 48 := by
  have := pk_lo (i := i.toNat) hlo (by omega)
  rw [item_of h0 h1, show (Str.ofString "0").cps.toList = [48] by decide]; exact sing_lt.trans (by omega)
theorem item_gt9 {ks : List Int} {i : Int} (hlo : ∀ k ∈ ks, 0 ≤ k ∧ k < (128 : Int)) (h0 : 0 ≤ i) (h1 : i < ks.length) : ((Str.ofString "9").cps.toList < (Txt.item (strOf ks) i).cps.toList) ↔ 57 < pk ks i.toNat := by
  have := pk_lo (i := i.toNat) hlo (by omega)
  rw [item_of h0 h1, show (Str.ofString "9").cps.toList = [57] by decide]; exact sing_lt.trans (by omega)
theorem item_ord {ks : List Int} {i : Int} (hlo : ∀ k ∈ ks, 0 ≤ k ∧ k < (128 : Int)) (h0 : 0 ≤ i) (h1 : i < ks.length) : (((Txt.item (strOf ks) i).cps.getD 0 0 : Nat) : Int) = pk ks i.toNat := by
  have := pk_lo (i := i.toNat) hlo (by omega)
  rw [item_of h0 h1]
  show ((pk ks i.toNat).toNat : Int) = _
  omega
noncomputable def isD (k : Int) : Bool := decide (48 ≤ k) && decide (k ≤ 57)
noncomputable def capStep (v k : Int) : Int := min (v * 10 + k - 48) 4294967296
noncomputable def capOf (l : List Int) : Int := l.foldl capStep 0
/-- one end of a pair: the number and the place behind -/
noncomputable def endP (ks : List Int) (i : Nat) : Option (Int × Nat) :=
  if pk ks i = 42 then some (0, i + 1)
  else if took isD ks i = [] then none
  else if pk ks i = 48 then none
  else if 4294967295 < capOf (took isD ks i) then none
  else some (capOf (took isD ks i), i + (took isD ks i).length)
theorem endP_at {ks : List Int} {i e1 : Int} (h0 : 0 ≤ i) (hle : i ≤ e1) (hhi : e1 ≤ ks.length) (hall : ∀ l : Nat, i ≤ l → l < e1 → isD (ks.getD l 0) = true) (hstop : e1 < ks.length → isD (pk ks e1.toNat) = false) (h42 : pk ks i.toNat ≠ 42) :
    endP ks i.toNat = if e1 = i then none else if pk ks i.toNat = 48 then none else if 4294967295 < capOf ((ks.drop i.toNat).take (e1.toNat - i.toNat)) then none else some (capOf ((ks.drop i.toNat).take (e1.toNat - i.toNat)), e1.toNat) := by
  have e : took isD ks i.toNat = (ks.drop i.toNat).take (e1.toNat - i.toNat) := took_of (by omega) (by omega) (fun l a b => hall l (by omega) (by omega)) (fun hlt => by rw [← pk_lt hlt]; exact hstop (by omega))
  have el := took_length (by omega) (by omega) e
  unfold endP
  rw [if_neg h42]
  by_cases hi : e1 = i
  · rw [if_pos hi, if_pos (List.eq_nil_of_length_eq_zero (by omega))]
  · rw [if_neg hi, if_neg (fun q => by rw [q] at el; simp at el; omega), el, e]
theorem isD_lo {k : Int} (h : k < 48) : isD k = false := by unfold isD; rw [decide_eq_false (by omega), Bool.false_and]
theorem isD_hi {k : Int} (h : 57 < k) : isD k = false := by unfold isD; rw [decide_eq_false (p := k ≤ 57) (by omega), Bool.and_false]
theorem isD_in {k : Int} (h : ¬ k < 48) (h' : ¬ 57 < k) : isD k = true := by unfold isD; rw [decide_eq_true (p := 48 ≤ k) (by omega), decide_eq_true (by omega)]; rfl
theorem cap_next {ks : List Int} {i e1 : Int} (h0 : 0 ≤ i) (hle : i ≤ e1) (hlt : e1 < ks.length) : capOf ((ks.drop i.toNat).take ((e1 + 1).toNat - i.toNat)) = capStep (capOf ((ks.drop i.toNat).take (e1.toNat - i.toNat))) (pk ks e1.toNat) := by
  rw [show (e1 + 1).toNat - i.toNat = (e1.toNat - i.toNat) + 1 by omega, List.take_succ_eq_append_getElem (by rw [List.length_drop]; omega)]
  unfold capOf
  rw [List.foldl_append]
  show capStep _ _ = _
  congr 1
  rw [List.getElem_drop, pk_lt (by omega), List.getD_eq_getElem?_getD, List.getElem?_eq_getElem (by omega)]
  simp only [Option.getD_some]
  congr 1
  omega
end Mine
end
section
set_option maxRecDepth 100000
namespace Mine
open PySem PySem.W PyProof.Rows PyProof
/-- the set of one pair that a text tells -/
noncomputable def setP (ks : List Int) : Option (Int × Int) :=
  match endP ks 0 with
  | none => none
  | some (lo, j) => match (if pk ks j = 58 then endP ks (j + 1) else some (lo, j)) with
    | none => none
    | some (hi, j') => if j' = ks.length then some (lo, hi) else none
noncomputable abbrev tAll : Dat := .tuple [.str (Str.ofString "all")]
noncomputable abbrev tNot (D : Dat) : Dat := .tuple [.str (Str.ofString "not"), D]
noncomputable abbrev tFlag : Dat := .tuple [.str (Str.ofString "flag"), .str (Str.ofString "\\Seen")]
noncomputable abbrev tSeq (lo hi : Int) : Dat := .tuple [.str (Str.ofString "seq"), .tuple [.tuple [.int lo, .int hi]]]
noncomputable abbrev tAnd (a b : Dat) : Dat := .tuple [.str (Str.ofString "and"), a, b]
noncomputable abbrev tOr (a b : Dat) : Dat := .tuple [.str (Str.ofString "or"), a, b]
/-- the word that begins at a place, in capitals; where it ends -/
noncomputable def wdOf (ks : List Int) (i : Nat) : Str := strOf ((took isL ks i).map upL)
noncomputable def wEnd (ks : List Int) (i : Nat) : Nat := i + (took isL ks i).length
noncomputable abbrev Key := Nat → Option (Dat × Nat)
noncomputable def moreP (key : Key) (ks : List Int) : Nat → Dat → Nat → Option (Dat × Nat)
  | 0, _, _ => none
  | n + 1, D, j => if pk ks j = 32 then (match key (j + 1) with | none => none | some r => moreP key ks n (tAnd D r.1) r.2) else some (D, j)
noncomputable def rowP (key : Key) (ks : List Int) (i : Nat) : Option (Dat × Nat) :=
  match key i with
  | none => none
  | some r => moreP key ks (ks.length + 1) r.1 r.2
noncomputable def orP (key : Key) (ks : List Int) (j : Nat) : Option (Dat × Nat) :=
  match key (j + 1) with
  | none => none
  | some r => if pk ks r.2 = 32 then (match key (r.2 + 1) with | none => none | some q => some (tOr r.1 q.1, q.2)) else none
noncomputable def wordP (key : Key) (ks : List Int) (W : Str) (j : Nat) : Option (Dat × Nat) :=
  if W = Str.ofString "NOT" then (if pk ks j = 32 then (match key (j + 1) with | none => none | some r => some (tNot r.1, r.2)) else none)
  else if W = Str.ofString "OR" then (if pk ks j = 32 then orP key ks j else none)
  else if W = Str.ofString "ALL" then some (tAll, j)
  else if W = Str.ofString "UNSEEN" then some (tNot tFlag, j)
  else if W = Str.ofString "NEW" then some (tNot tAll, j)
  else none
noncomputable def stepP (key : Key) (ks : List Int) (i : Nat) : Option (Dat × Nat) :=
  if pk ks i = 40 then (match rowP key ks (i + 1) with | none => none | some r => if pk ks r.2 = 41 then some (r.1, r.2 + 1) else none)
  else if isS (pk ks i) = true then (match setP (took isS ks i) with | none => none | some p => some (tSeq p.1 p.2, i + (took isS ks i).length))
  else wordP key ks (wdOf ks i) (wEnd ks i)
noncomputable def keyP (ks : List Int) : Nat → Key
  | 0, _ => none
  | f + 1, i => stepP (keyP ks f) ks i
/-- a place where a key may begin -/
noncomputable def Pos0 (ks : List Int) (i : Nat) : Prop := i = 0 ∨ pk ks (i - 1) = 32 ∨ pk ks (i - 1) = 40
theorem pk_in {ks : List Int} {i : Nat} (h : pk ks i ≠ -1) : i < ks.length := by
  by_cases q : i < ks.length
  · exact q
  · exact absurd (pk_ge (by omega)) h
section
variable {ks : List Int}
/-- a reader's answer lies behind its place and within the text -/
noncomputable def Adv (ks : List Int) (key : Key) : Prop := ∀ i D j, key i = some (D, j) → i < j ∧ (i ≤ ks.length → j ≤ ks.length)
theorem more_adv {key : Key} (hA : Adv ks key) : ∀ n D j D' j', moreP key ks n D j = some (D', j') → j ≤ j' ∧ (j ≤ ks.length → j' ≤ ks.length)
  | 0, _, _, _, _, h => by cases h
  | n + 1, D, j, D', j', h => by
    unfold moreP at h
    split at h
    · rename_i hj
      have := pk_in (ks := ks) (i := j) (by rw [hj]; decide)
      split at h
      · cases h
      · rename_i r hr
        have h1 := hA _ _ _ hr
        have h2 := more_adv hA n _ _ _ _ h
        exact ⟨by omega, fun _ => h2.2 (h1.2 (by omega))⟩
    · cases h; exact ⟨Nat.le_refl _, id⟩
theorem row_adv {key : Key} (hA : Adv ks key) : Adv ks (rowP key ks) := by
  intro i D j h
  unfold rowP at h
  split at h
  · cases h
  · rename_i r hr
    have h1 := hA _ _ _ hr
    have h2 := more_adv hA _ _ _ _ _ h
    exact ⟨by omega, fun q => h2.2 (h1.2 q)⟩
theorem wEnd_le {i : Nat} (h : i ≤ ks.length) : wEnd ks i ≤ ks.length := took_le h
theorem wd_pos {i : Nat} {c : Str} (h : wdOf ks i = c) (hc : c.length ≠ 0) : i < wEnd ks i := by
  unfold wEnd
  unfold wdOf at h
  have := congrArg Str.length h
  rw [strOf_length, List.length_map] at this
  omega
theorem step_adv {key : Key} (hA : Adv ks key) : Adv ks (stepP key ks) := by
  intro i D j h
  unfold stepP at h
  split at h
  · rename_i hj
    have := pk_in (ks := ks) (i := i) (by rw [hj]; decide)
    split at h
    · cases h
    · rename_i r hr
      have h1 := row_adv hA _ _ _ hr
      split at h
      · rename_i hj2
        have := pk_in (ks := ks) (i := r.2) (by rw [hj2]; decide)
        cases h
        exact ⟨by omega, fun _ => by omega⟩
      · cases h
  · split at h
    · rename_i hs
      have hi := pk_in (ks := ks) (i := i) (by intro q; rw [q] at hs; exact absurd hs (by decide))
      split at h
      · cases h
      · cases h
        have hp : (took isS ks i) ≠ [] := by
          unfold took
          rw [List.drop_eq_getElem_cons hi, List.takeWhile_cons, if_pos]
          · simp
          · rw [pk_lt hi, List.getD_eq_getElem?_getD, List.getElem?_eq_getElem hi] at hs
            exact hs
        have := List.length_pos_iff.mpr hp
        exact ⟨by omega, fun q => took_le q⟩
    · unfold wordP at h
      have hw : ∀ c : Str, wdOf ks i = c → c.length ≠ 0 → i < wEnd ks i := fun c => wd_pos
      have hle : i ≤ ks.length → wEnd ks i ≤ ks.length := wEnd_le
      generalize wEnd ks i = e at h hw hle
      split at h
      · rename_i hc
        have := hw _ hc (by decide)
        split at h
        · rename_i hj2
          have := pk_in (ks := ks) (i := e) (by rw [hj2]; decide)
          split at h
          · cases h
          · rename_i r hr
            cases h
            have h1 := hA _ _ _ hr
            exact ⟨by omega, fun _ => h1.2 (by omega)⟩
        · cases h
      split at h
      · rename_i hc
        have := hw _ hc (by decide)
        split at h
        · rename_i hj2
          have := pk_in (ks := ks) (i := e) (by rw [hj2]; decide)
          unfold orP at h
          split at h
          · cases h
          · rename_i r hr
            have h1 := hA _ _ _ hr
            split at h
            · rename_i hj3
              have := pk_in (ks := ks) (i := r.2) (by rw [hj3]; decide)
              split at h
              · cases h
              · rename_i q hq
                cases h
                have h2 := hA _ _ _ hq
                exact ⟨by omega, fun _ => h2.2 (by omega)⟩
            · cases h
        · cases h
      split at h
      · rename_i hc
        have := hw _ hc (by decide)
        cases h; exact ⟨this, hle⟩
      split at h
      · rename_i hc
        have := hw _ hc (by decide)
        cases h; exact ⟨this, hle⟩
      split at h
      · rename_i hc
        have := hw _ hc (by decide)
        cases h; exact ⟨this, hle⟩
      · cases h
theorem key_adv : ∀ f, Adv ks (keyP ks f)
  | 0 => fun _ _ _ h => by cases h
  | f + 1 => step_adv (key_adv f)
/-- how deep an answer is: by the blanks taken -/
noncomputable def cb (ks : List Int) (j : Nat) : Nat := (ks.take j).count 32
theorem cb_le {i j : Nat} (h : i ≤ j) : cb ks i ≤ cb ks j := by
  unfold cb
  have : ks.take i = (ks.take j).take i := by rw [List.take_take, Nat.min_eq_left h]
  rw [this]
  exact List.Sublist.count_le _ (List.take_sublist _ _)
theorem cb_next {j : Nat} (h : pk ks j = 32) : cb ks (j + 1) = cb ks j + 1 := by
  have hj := pk_in (ks := ks) (i := j) (by rw [h]; decide)
  unfold cb
  rw [List.take_succ_eq_append_getElem hj, List.count_append]
  have : ks[j] = 32 := by
    rw [pk_lt hj, List.getD_eq_getElem?_getD, List.getElem?_eq_getElem hj] at h
    exact h
  rw [this]; rfl
theorem ok_mono : ∀ (n : Nat) (d : Dat), kqdOk n d = true → kqdOk (n + 1) d = true := by
  intro n
  induction n with
  | zero => intro d h; cases d <;> simp_all [kqdOk]
  | succ n ih =>
    intro d h
    cases d with
    | tuple ds => simp only [kqdOk, List.all_eq_true] at h ⊢; exact fun d hd => ih d (h d hd)
    | list ds => simp only [kqdOk, List.all_eq_true] at h ⊢; exact fun d hd => ih d (h d hd)
    | _ => simpa [kqdOk] using h
theorem ok_le {n m : Nat} {d : Dat} (h : kqdOk n d = true) (hl : n ≤ m) : kqdOk m d = true := by
  induction hl with
  | refl => exact h
  | step _ ih => exact ok_mono _ _ ih
theorem ok_not {n : Nat} {D : Dat} (h : kqdOk n D = true) : kqdOk (n + 1) (tNot D) = true := by
  have h1 : PyData.strOk (Str.ofString "not") = true := by decide +kernel
  cases n <;> simp [kqdOk, h1] <;> exact h
theorem ok_and {n : Nat} {D D' : Dat} (h : kqdOk n D = true) (h' : kqdOk n D' = true) : kqdOk (n + 1) (tAnd D D') = true := by
  have h1 : PyData.strOk (Str.ofString "and") = true := by decide +kernel
  cases n <;> simp [kqdOk, h1] <;> exact ⟨h, h'⟩
theorem ok_or {n : Nat} {D D' : Dat} (h : kqdOk n D = true) (h' : kqdOk n D' = true) : kqdOk (n + 1) (tOr D D') = true := by
  have h1 : PyData.strOk (Str.ofString "or") = true := by decide +kernel
  cases n <;> simp [kqdOk, h1] <;> exact ⟨h, h'⟩
theorem ok_seq {lo hi : Int} : kqdOk 3 (tSeq lo hi) = true := by
  have h1 : PyData.strOk (Str.ofString "seq") = true := by decide +kernel
  simp [kqdOk, h1]
theorem ok_all : kqdOk 1 tAll = true := by
  have h1 : PyData.strOk (Str.ofString "all") = true := by decide +kernel
  simp [kqdOk, h1]
theorem ok_flag : kqdOk 2 (tNot tFlag) = true := by
  have h1 : PyData.strOk (Str.ofString "flag") = true := by decide +kernel
  have h2 : PyData.strOk (Str.ofString "\\Seen") = true := by decide +kernel
  exact ok_not (by simp [kqdOk, h1, h2])
noncomputable def Dep (ks : List Int) (key : Key) : Prop := ∀ i D j, key i = some (D, j) → kqdOk (3 + (cb ks j - cb ks i)) D = true
theorem more_dep {key : Key} (hA : Adv ks key) (hD : Dep ks key) : ∀ n D j D' j' c, c ≤ cb ks j → kqdOk (3 + (cb ks j - c)) D = true → moreP key ks n D j = some (D', j') → kqdOk (3 + (cb ks j' - c)) D' = true
  | 0, _, _, _, _, _, _, _, h => by cases h
  | n + 1, D, j, D', j', c, hc, h0, h => by
    unfold moreP at h
    split at h
    · rename_i hj
      have e := cb_next hj
      split at h
      · cases h
      · rename_i r hr
        have h1 := hA _ _ _ hr
        have h2 := hD _ _ _ hr
        have h3 := cb_le (ks := ks) (Nat.le_of_lt h1.1)
        refine more_dep hA hD n _ _ _ _ c (by omega) ?_ h
        refine ok_le (ok_and (n := 3 + (cb ks r.2 - cb ks (j + 1)) + (cb ks j - c)) (ok_le h0 (by omega)) (ok_le h2 (by omega))) (by omega)
    · cases h; exact h0
theorem row_dep {key : Key} (hA : Adv ks key) (hD : Dep ks key) : Dep ks (rowP key ks) := by
  intro i D j h
  unfold rowP at h
  split at h
  · cases h
  · rename_i r hr
    exact more_dep hA hD _ _ _ _ _ _ (cb_le (Nat.le_of_lt (hA _ _ _ hr).1)) (hD _ _ _ hr) h
theorem step_dep {key : Key} (hA : Adv ks key) (hD : Dep ks key) : Dep ks (stepP key ks) := by
  intro i D j h
  have hij := cb_le (ks := ks) (Nat.le_of_lt (step_adv hA _ _ _ h).1)
  unfold stepP at h
  split at h
  · split at h
    · cases h
    · rename_i r hr
      have h1 := row_dep hA hD _ _ _ hr
      have h2 := cb_le (ks := ks) (Nat.le_succ i)
      split at h
      · cases h
        exact ok_le h1 (by have := cb_le (ks := ks) (Nat.le_succ r.2); simp only [Nat.succ_eq_add_one] at *; omega)
      · cases h
  · split at h
    · split at h
      · cases h
      · cases h
        exact ok_le ok_seq (by omega)
    · unfold wordP at h
      have he := cb_le (ks := ks) (show i ≤ wEnd ks i from Nat.le_add_right _ _)
      generalize wEnd ks i = e at h he
      split at h
      · split at h
        · rename_i hj2
          have e1 := cb_next hj2
          split at h
          · cases h
          · rename_i r hr
            cases h
            have h1 := hD _ _ _ hr
            have h3 := cb_le (ks := ks) (Nat.le_of_lt (hA _ _ _ hr).1)
            exact ok_le (ok_not h1) (by omega)
        · cases h
      split at h
      · split at h
        · rename_i hj2
          have e1 := cb_next hj2
          unfold orP at h
          split at h
          · cases h
          · rename_i r hr
            have h1 := hD _ _ _ hr
            have h3 := cb_le (ks := ks) (Nat.le_of_lt (hA _ _ _ hr).1)
            split at h
            · rename_i hj3
              have e2 := cb_next hj3
              split at h
              · cases h
              · rename_i q hq
                cases h
                have h2 := hD _ _ _ hq
                have h4 := cb_le (ks := ks) (Nat.le_of_lt (hA _ _ _ hq).1)
                exact ok_le (ok_or (n := 3 + (cb ks q.2 - cb ks (r.2 + 1)) + (cb ks r.2 - cb ks (e + 1))) (ok_le h1 (by omega)) (ok_le h2 (by omega))) (by omega)
            · cases h
        · cases h
      split at h
      · cases h; exact ok_le (n := 1) ok_all (by omega)
      split at h
      · cases h; exact ok_le (n := 2) ok_flag (by omega)
      split at h
      · cases h; exact ok_le (n := 2) (ok_not ok_all) (by omega)
      · cases h
theorem key_dep : ∀ f, Dep ks (keyP ks f)
  | 0 => fun _ _ _ h => by cases h
  | f + 1 => step_dep (key_adv f) (key_dep f)
theorem row_ok {f i : Nat} {D : Dat} {j : Nat} (h : rowP (keyP ks f) ks i = some (D, j)) (hc : ks.count 32 ≤ 40) : kqdOk 50 D = true := by
  refine ok_le (row_dep (key_adv f) (key_dep f) _ _ _ h) ?_
  have : cb ks j ≤ ks.count 32 := List.Sublist.count_le _ (List.take_sublist _ _)
  omega
end
theorem dig_memN {k : Nat} : k ∈ [48, 49, 50, 51, 52, 53, 54, 55, 56, 57] ↔ 48 ≤ k ∧ k ≤ 57 := by
  rw [show [48, 49, 50, 51, 52, 53, 54, 55, 56, 57] = (List.range 10).map (48 + ·) from rfl, List.mem_map]
  exact ⟨fun ⟨n, h, e⟩ => by have := List.mem_range.mp h; omega, fun h => ⟨k - 48, List.mem_range.mpr (by omega), by omega⟩⟩
theorem dig_memZ {k : Int} : k ∈ [(48 : Int), 49, 50, 51, 52, 53, 54, 55, 56, 57] ↔ 48 ≤ k ∧ k ≤ 57 := by
  rw [show [(48 : Int), 49, 50, 51, 52, 53, 54, 55, 56, 57] = (List.range 10).map (fun n => ((48 + n : Nat) : Int)) from rfl, List.mem_map]
  exact ⟨fun ⟨n, h, e⟩ => by have := List.mem_range.mp h; omega, fun h => ⟨(k - 48).toNat, List.mem_range.mpr (by omega), by omega⟩⟩
end Mine
end
section
set_option maxRecDepth 100000
namespace Mine
open PySem PySem.W PyProof.Rows PyProof
/-- the parts between the colons -/
noncomputable def parts : List Int → List (List Int)
  | [] => [[]]
  | k :: r => if k = 58 then [] :: parts r else (match parts r with | [] => [[k]] | p :: q => (k :: p) :: q)
theorem parts_ne : ∀ l, parts l ≠ []
  | [] => by simp [parts]
  | k :: r => by
    unfold parts
    split
    · simp
    · split <;> simp
theorem parts_cases : ∀ l, ((∀ k ∈ l, k ≠ (58 : Int)) ∧ parts l = [l]) ∨ ∃ p t, l = p ++ 58 :: t ∧ (∀ k ∈ p, k ≠ (58 : Int)) ∧ parts l = p :: parts t
  | [] => .inl ⟨fun _ h => (nomatch h), rfl⟩
  | k :: r => by
    by_cases hk : k = 58
    · subst hk
      exact .inr ⟨[], r, rfl, fun _ h => (nomatch h), by simp [parts]⟩
    · rcases parts_cases r with ⟨h1, h2⟩ | ⟨p, t, h1, h2, h3⟩
      · refine .inl ⟨fun j hj => ?_, by simp [parts, hk, h2]⟩
        rcases List.mem_cons.mp hj with rfl | hj
        · exact hk
        · exact h1 j hj
      · refine .inr ⟨k :: p, t, by rw [h1]; rfl, fun j hj => ?_, by simp [parts, hk, h3]⟩
        rcases List.mem_cons.mp hj with rfl | hj
        · exact hk
        · exact h2 j hj
theorem parts_plain {l : List Int} (h : ∀ k ∈ l, k ≠ (58 : Int)) : parts l = [l] := by
  rcases parts_cases l with ⟨_, h2⟩ | ⟨p, t, rfl, _, _⟩
  · exact h2
  · exact absurd rfl (h 58 (by simp))
theorem parts_colon : ∀ {p t : List Int}, (∀ k ∈ p, k ≠ (58 : Int)) → parts (p ++ 58 :: t) = p :: parts t
  | [], t, _ => by simp [parts]
  | k :: p, t, h => by
    have ih := parts_colon (p := p) (t := t) fun j hj => h j (List.Mem.tail _ hj)
    show parts (k :: (p ++ 58 :: t)) = (k :: p) :: parts t
    rw [parts, if_neg (h k (List.Mem.head _)), ih]
theorem strOf_toList {ks : List Int} : (strOf ks).cps.toList = ks.map Int.toNat := by unfold strOf; simp
theorem str_of_list {a : Str} : a = ⟨a.cps.toList.toArray⟩ := by
  apply Str.ext'
  simp
/-- what a text of texts without a colon is made of -/
theorem parts_join : ∀ (ys : List Str), ys ≠ [] → (∀ p ∈ ys, 58 ∉ p.cps.toList) → ∀ ks : List Int, (∀ k ∈ ks, 0 ≤ k) → (Str.join (Str.ofString ":") ys).cps.toList = ks.map Int.toNat → ys = (parts ks).map strOf
  | [], h, _, _, _, _ => absurd rfl h
  | [x], _, hf, ks, hn, h => by
    have hx : x.cps.toList = ks.map Int.toNat := h
    have hk : ∀ k ∈ ks, k ≠ (58 : Int) := by
      intro k hk q
      subst q
      exact hf x (List.Mem.head _) (by rw [hx]; exact List.mem_map.mpr ⟨_, hk, rfl⟩)
    rw [parts_plain hk]
    show [x] = [strOf ks]
    congr 1
    apply Str.ext'
    apply Array.toList_inj.mp
    rw [hx, strOf_toList]
  | x :: y :: r, _, hf, ks, hn, h => by
    have h1 : (x ++ Str.ofString ":" ++ Str.join (Str.ofString ":") (y :: r)).cps.toList = ks.map Int.toNat := h
    rw [Str.cps_append, Str.cps_append, Array.toList_append, Array.toList_append, show (Str.ofString ":").cps.toList = [58] by decide, List.append_assoc] at h1
    obtain ⟨p, t', rfl, e1, e2⟩ := List.map_eq_append_iff.mp h1.symm
    obtain ⟨c, t, rfl, e3, e4⟩ := List.map_eq_cons_iff.mp e2
    have hc : c = 58 := by omega
    subst hc
    have hp : ∀ k ∈ p, k ≠ (58 : Int) := by
      intro k hk q
      subst q
      exact hf x (List.Mem.head _) (by rw [← e1]; exact List.mem_map.mpr ⟨_, hk, rfl⟩)
    rw [parts_colon hp, List.map_cons, ← parts_join (y :: r) (by simp) (fun p hp => hf p (List.Mem.tail _ hp)) t (fun k hk => hn k (by simp [hk])) e4.symm]
    congr 1
    apply Str.ext'
    apply Array.toList_inj.mp
    rw [strOf_toList, e1]
theorem split_colon {ks : List Int} (hn : ∀ k ∈ ks, 0 ≤ k) : Txt.split (strOf ks) (Str.ofString ":") = (parts ks).map strOf := by
  have hc : Str.ofString ":" = ⟨#[58]⟩ := by decide
  refine parts_join _ ?_ (by rw [hc]; exact StrLaws.split_free _ _) ks hn (by rw [StrLaws.join_split, strOf_toList])
  unfold Txt.split
  split
  · simp
  · split
    · simp
    · rw [StrLaws.partsBetween_eq]
      obtain ⟨p, r, e⟩ := StrLaws.partsFrom_ne (strOf ks) (Str.ofString ":").length 0 (Builtin.Str.occurrences (strOf ks) (Str.ofString ":") 0 (strOf ks).length ((strOf ks).length + 1))
      rw [e]; simp
/-- one part: the number it tells -/
noncomputable def valOf (l : List Int) : Int := l.foldl (fun v k => v * 10 + k - 48) 0
noncomputable def partV (p : List Int) : Option Int :=
  if p = [42] then some 0
  else if p ≠ [] ∧ (∀ k ∈ p, isD k = true) ∧ p.headD 0 ≠ 48 ∧ p.length < 19 ∧ valOf p ≤ 4294967295 then some (valOf p) else none
noncomputable def pairP (ks : List Int) : Option (Int × Int) :=
  match (parts ks).mapM partV with
  | some [a] => some (a, a)
  | some [a, b] => some (a, b)
  | _ => none
theorem isD_iff {k : Int} : isD k = true ↔ 48 ≤ k ∧ k ≤ 57 := by
  unfold isD; simp
theorem cap_val : ∀ (l : List Int) (a : Int), 0 ≤ a → (∀ k ∈ l, isD k = true) → l.foldl capStep (min a 4294967296) = min (l.foldl (fun v k => v * 10 + k - 48) a) 4294967296
  | [], _, _, _ => rfl
  | k :: l, a, h0, h => by
    have hk := isD_iff.mp (h k (List.Mem.head _))
    have e : capStep (min a 4294967296) k = min (a * 10 + k - 48) 4294967296 := by
      unfold capStep
      omega
    rw [List.foldl_cons, List.foldl_cons, e]
    exact cap_val l _ (by omega) fun k hk => h k (List.Mem.tail _ hk)
theorem capOf_val {l : List Int} (h : ∀ k ∈ l, isD k = true) : capOf l = min (valOf l) 4294967296 := cap_val l 0 (by decide) h
theorem val_ge : ∀ (l : List Int) (a : Int), (∀ k ∈ l, isD k = true) → a * 10 ^ l.length ≤ l.foldl (fun v k => v * 10 + k - 48) a
  | [], a, _ => by simp
  | k :: l, a, h => by
    have hk := isD_iff.mp (h k (List.Mem.head _))
    have ih := val_ge l (a * 10 + k - 48) fun k hk => h k (List.Mem.tail _ hk)
    rw [List.foldl_cons, List.length_cons]
    refine Int.le_trans ?_ ih
    rw [show (10 : Int) ^ (l.length + 1) = 10 * 10 ^ l.length by rw [Int.pow_succ, Int.mul_comm], ← Int.mul_assoc]
    exact Int.mul_le_mul_of_nonneg_right (by omega) (Int.le_of_lt (Int.pow_pos (by decide)))
theorem val_big {l : List Int} (h : ∀ k ∈ l, isD k = true) (h1 : l.headD 0 ≠ 48) (h2 : 19 ≤ l.length) : 4294967295 < valOf l := by
  cases l with
  | nil => simp at h2
  | cons k l =>
    have hk := isD_iff.mp (h k (List.Mem.head _))
    have h3 : k ≠ 48 := h1
    have := val_ge l (0 * 10 + k - 48) fun k hk => h k (List.Mem.tail _ hk)
    have h4 : (10 : Int) ^ 18 ≤ 10 ^ l.length := by
      rw [List.length_cons] at h2
      obtain ⟨m, hm⟩ : ∃ m, l.length = 18 + m := ⟨l.length - 18, by omega⟩
      rw [hm, Int.pow_add]
      have : (1 : Int) ≤ 10 ^ m := Int.pow_pos (by decide)
      have h5 := Int.mul_le_mul_of_nonneg_left this (show (0 : Int) ≤ 10 ^ 18 by decide)
      omega
    have h5 : (10 : Int) ^ l.length ≤ (0 * 10 + k - 48) * 10 ^ l.length := by
      have := Int.mul_le_mul_of_nonneg_right (show (1 : Int) ≤ 0 * 10 + k - 48 by omega) (Int.le_trans (by decide) h4)
      omega
    show 4294967295 < l.foldl (fun v k => v * 10 + k - 48) (0 * 10 + k - 48)
    have : (4294967295 : Int) < 10 ^ 18 := by decide
    omega
theorem pk_at {a : List Int} {k : Int} {t : List Int} : pk (a ++ k :: t) a.length = k := by
  unfold pk
  rw [List.getD_eq_getElem?_getD, List.getElem?_append_right (Nat.le_refl _)]
  simp
theorem pk_end {a : List Int} : pk a a.length = -1 := pk_ge (Nat.le_refl _)
theorem takeWhile_app {p : Int → Bool} : ∀ {l t : List Int}, (∀ k ∈ l, p k = true) → (l ++ t).takeWhile p = l ++ t.takeWhile p
  | [], _, _ => rfl
  | k :: l, t, h => by
    rw [List.cons_append, List.takeWhile_cons, if_pos (h k (List.Mem.head _)), takeWhile_app fun k hk => h k (List.Mem.tail _ hk)]
    rfl
theorem took_at {p : Int → Bool} {a l t : List Int} (h : ∀ k ∈ l, p k = true) : took p (a ++ (l ++ t)) a.length = l ++ t.takeWhile p := by
  unfold took
  rw [List.drop_left, takeWhile_app h]
/-- a part read where it stands -/
theorem end_part {a p t : List Int} (hs : ∀ k ∈ p, isD k = true ∨ k = 42) (ht : t = [] ∨ ∃ r, t = 58 :: r) :
    (∀ v, partV p = some v → endP (a ++ (p ++ t)) a.length = some (v, a.length + p.length)) ∧
    (partV p = none → endP (a ++ (p ++ t)) a.length = none ∨ ∃ v j, endP (a ++ (p ++ t)) a.length = some (v, j) ∧ a.length ≤ j ∧ j < a.length + p.length) := by
  have htw : t.takeWhile isD = [] := by
    rcases ht with rfl | ⟨r, rfl⟩
    · rfl
    · rw [List.takeWhile_cons, if_neg (by decide)]
  cases p with
  | nil =>
    have e : endP (a ++ ([] ++ t)) a.length = none := by
      have h1 : pk (a ++ ([] ++ t)) a.length ≠ 42 := by
        rcases ht with rfl | ⟨r, rfl⟩
        · rw [List.append_nil, List.append_nil, pk_end]; decide
        · rw [List.nil_append, pk_at]; decide
      unfold endP
      rw [if_neg h1, took_at (l := []) (fun _ h => (nomatch h)), htw]
      rfl
    exact ⟨fun v hv => (by simp [partV] at hv), fun _ => .inl e⟩
  | cons k p =>
    have hk : pk (a ++ (k :: p ++ t)) a.length = k := pk_at (t := p ++ t)
    by_cases h42 : k = 42
    · subst h42
      have e : endP (a ++ (42 :: p ++ t)) a.length = some (0, a.length + 1) := by unfold endP; rw [if_pos hk]
      cases p with
      | nil => exact ⟨fun v hv => by simp [partV] at hv; rw [e, ← hv]; rfl, fun h => by simp [partV] at h⟩
      | cons k2 p =>
        refine ⟨fun v hv => ?_, fun _ => .inr ⟨_, _, e, Nat.le_succ _, by simp⟩⟩
        unfold partV at hv
        rw [if_neg (by simp)] at hv
        split at hv
        · rename_i h
          exact absurd (h.2.1 42 (List.Mem.head _)) (by decide)
        · cases hv
    · have hkd : isD k = true := (hs k (List.Mem.head _)).resolve_right h42
      have hne : k :: p ≠ [42] := by intro q; cases q; exact h42 rfl
      by_cases hall : ∀ j ∈ k :: p, isD j = true
      · have htk : took isD (a ++ (k :: p ++ t)) a.length = k :: p := by rw [took_at hall, htw, List.append_nil]
        have hcap := capOf_val hall
        have h42' : ¬ pk (a ++ (k :: p ++ t)) a.length = 42 := by rw [hk]; exact h42
        have hnil : ¬ k :: p = [] := by simp
        unfold endP partV
        rw [if_neg hne, if_neg h42', htk, if_neg hnil, hk]
        by_cases h48 : k = 48
        · have hn' : ¬ (k :: p ≠ [] ∧ (∀ j ∈ k :: p, isD j = true) ∧ (k :: p).headD 0 ≠ 48 ∧ (k :: p).length < 19 ∧ valOf (k :: p) ≤ 4294967295) := fun q => q.2.2.1 h48
          rw [if_neg hn', if_pos h48]
          exact ⟨fun v hv => (nomatch hv), fun _ => .inl rfl⟩
        · rw [if_neg h48]
          by_cases hbig : 4294967295 < valOf (k :: p)
          · have hn' : ¬ (k :: p ≠ [] ∧ (∀ j ∈ k :: p, isD j = true) ∧ (k :: p).headD 0 ≠ 48 ∧ (k :: p).length < 19 ∧ valOf (k :: p) ≤ 4294967295) := fun q => absurd q.2.2.2.2 (by omega)
            have hc' : 4294967295 < capOf (k :: p) := by omega
            rw [if_neg hn', if_pos hc']
            exact ⟨fun v hv => (nomatch hv), fun _ => .inl rfl⟩
          · have hlt : (k :: p).length < 19 := by
              by_cases q : (k :: p).length < 19
              · exact q
              · exact absurd (val_big hall h48 (by omega)) hbig
            have hn' : (k :: p ≠ [] ∧ (∀ j ∈ k :: p, isD j = true) ∧ (k :: p).headD 0 ≠ 48 ∧ (k :: p).length < 19 ∧ valOf (k :: p) ≤ 4294967295) := ⟨by simp, hall, h48, hlt, by omega⟩
            have hc' : ¬ 4294967295 < capOf (k :: p) := by omega
            rw [if_pos hn', if_neg hc']
            refine ⟨fun v hv => ?_, fun h => by cases h⟩
            cases hv
            rw [hcap, Int.min_eq_left (by omega)]
      · have hpn : partV (k :: p) = none := by
          unfold partV
          rw [if_neg hne, if_neg (by intro q; exact hall q.2.1)]
        refine ⟨fun v hv => (by rw [hpn] at hv; cases hv), fun _ => ?_⟩
        -- the run of figures ends at a star within the part
        obtain ⟨l1, l2, hl, h1, h2⟩ : ∃ l1 l2, k :: p = l1 ++ 42 :: l2 ∧ (∀ j ∈ l1, isD j = true) ∧ l1 ≠ [] := by
          clear hk hne hpn
          have key : ∀ l : List Int, (∀ j ∈ l, isD j = true ∨ j = 42) → ¬ (∀ j ∈ l, isD j = true) → ∃ l1 l2, l = l1 ++ 42 :: l2 ∧ (∀ j ∈ l1, isD j = true) := by
            intro l
            induction l with
            | nil => intro _ h; exact absurd (fun _ h => by cases h) h
            | cons j l ih =>
              intro hl hn
              rcases hl j (List.Mem.head _) with hj | hj
              · obtain ⟨l1, l2, e, q⟩ := ih (fun j hj => hl j (List.Mem.tail _ hj)) (fun h => hn fun i hi => by
                  rcases List.mem_cons.mp hi with rfl | hi
                  · exact hj
                  · exact h i hi)
                exact ⟨j :: l1, l2, by rw [e]; rfl, fun i hi => by
                  rcases List.mem_cons.mp hi with rfl | hi
                  · exact hj
                  · exact q i hi⟩
              · exact ⟨[], l, by rw [hj]; rfl, fun _ h => by cases h⟩
          obtain ⟨l1, l2, e, q⟩ := key _ hs hall
          refine ⟨l1, l2, e, q, fun z => ?_⟩
          subst z
          cases e
          exact h42 rfl
        have htk : took isD (a ++ (k :: p ++ t)) a.length = l1 := by
          rw [hl, List.append_assoc, took_at h1, List.cons_append, List.takeWhile_cons, if_neg (by decide), List.append_nil]
        have hlen : l1.length < (k :: p).length := by rw [hl]; simp
        have hpos := List.length_pos_iff.mpr h2
        have h42' : ¬ pk (a ++ (k :: p ++ t)) a.length = 42 := by rw [hk]; exact h42
        unfold endP
        rw [if_neg h42', htk, if_neg h2]
        split
        · exact .inl rfl
        · split
          · exact .inl rfl
          · exact .inr ⟨_, _, rfl, by omega, by omega⟩
theorem pk_in_part {a p t : List Int} {j : Nat} (h1 : a.length ≤ j) (h2 : j < a.length + p.length) : pk (a ++ (p ++ t)) j ∈ p ∧ j < (a ++ (p ++ t)).length := by
  have hj : j < (a ++ (p ++ t)).length := by simp; omega
  refine ⟨?_, hj⟩
  rw [pk_lt hj, List.getD_eq_getElem?_getD, List.getElem?_append_right h1, List.getElem?_append_left (by omega), List.getElem?_eq_getElem (by omega)]
  exact List.getElem_mem _
theorem set_pair {ks : List Int} (hs : ∀ k ∈ ks, isD k = true ∨ k = 42 ∨ k = 58) : setP ks = pairP ks := by
  rcases parts_cases ks with ⟨h1, h2⟩ | ⟨p, t, rfl, hp, h2⟩
  · have hk : ∀ k ∈ ks, isD k = true ∨ k = 42 := fun k hk => (hs k hk).imp_right fun h => h.resolve_right (h1 k hk)
    obtain ⟨e1, e2⟩ := end_part (a := []) (p := ks) (t := []) hk (.inl rfl)
    simp only [List.nil_append, List.append_nil, List.length_nil, Nat.zero_add] at e1 e2
    unfold pairP setP
    rw [h2]
    cases hv : partV ks with
    | some v =>
      rw [e1 v hv]
      simp [hv, pk_end]
    | none =>
      rcases e2 hv with e | ⟨v, j, e, _, hj⟩
      · rw [e]; simp [hv]
      · rw [e]
        have := (pk_in_part (a := []) (p := ks) (t := []) (Nat.zero_le j) (by simpa using hj)).1
        simp only [List.nil_append, List.append_nil] at this
        have h58 := h1 _ this
        simp [hv, h58]
        omega
  · have hk : ∀ k ∈ p, isD k = true ∨ k = 42 := fun k hk => (hs k (by simp [hk])).imp_right fun h => h.resolve_right (hp k hk)
    obtain ⟨e1, e2⟩ := end_part (a := []) (p := p) (t := 58 :: t) hk (.inr ⟨t, rfl⟩)
    simp only [List.nil_append, List.length_nil, Nat.zero_add] at e1 e2
    have hc : pk (p ++ 58 :: t) p.length = 58 := pk_at
    unfold pairP setP
    rw [h2]
    cases hv : partV p with
    | none =>
      rcases e2 hv with e | ⟨v, j, e, _, hj⟩
      · rw [e]; simp [hv]
      · rw [e]
        have hj2 := pk_in_part (a := []) (p := p) (t := 58 :: t) (Nat.zero_le j) (by simpa using hj)
        simp only [List.nil_append] at hj2
        have h58 := hp _ hj2.1
        simp [hv, h58]
        omega
    | some v =>
      rw [e1 v hv]
      dsimp only
      rw [if_pos hc]
      have hlen : (p ++ [58]).length = p.length + 1 := by simp
      have heq : p ++ 58 :: t = (p ++ [58]) ++ t := by simp
      rcases parts_cases t with ⟨t1, t2⟩ | ⟨q, u, rfl, hq, t2⟩
      · have hk : ∀ k ∈ t, isD k = true ∨ k = 42 := fun k hk => (hs k (by simp [hk])).imp_right fun h => h.resolve_right (t1 k hk)
        obtain ⟨f1, f2⟩ := end_part (a := p ++ [58]) (p := t) (t := []) hk (.inl rfl)
        rw [List.append_nil, ← heq, hlen] at f1 f2
        rw [t2]
        cases hw : partV t with
        | some u =>
          rw [f1 u hw]
          simp [hv, hw]
          omega
        | none =>
          rcases f2 hw with e | ⟨u, j, e, _, hj⟩
          · rw [e]; simp [hv, hw]
          · rw [e]
            simp [hv, hw]
            omega
      · have hk : ∀ k ∈ q, isD k = true ∨ k = 42 := fun k hk => (hs k (by simp [hk])).imp_right fun h => h.resolve_right (hq k hk)
        obtain ⟨f1, f2⟩ := end_part (a := p ++ [58]) (p := q) (t := 58 :: u) hk (.inr ⟨u, rfl⟩)
        rw [← heq, hlen] at f1 f2
        rw [t2]
        obtain ⟨r1, r2, hr⟩ : ∃ r1 r2, parts u = r1 :: r2 := by
          cases h : parts u with
          | nil => exact absurd h (parts_ne u)
          | cons a b => exact ⟨a, b, rfl⟩
        have hno : (match (p :: q :: parts u).mapM partV with | some [a] => some (a, a) | some [a, b] => some (a, b) | _ => none : Option (Int × Int)) = none := by
          rw [hr]
          simp only [List.mapM_cons, hv, Option.bind_eq_bind, Option.bind_some, Option.pure_def]
          cases partV q with
          | none => rfl
          | some w =>
            cases partV r1 with
            | none => rfl
            | some z =>
              cases r2.mapM partV with
              | none => rfl
              | some l => rfl
        rw [hno]
        cases hw : partV q with
        | some w =>
          rw [f1 w hw]
          simp
          omega
        | none =>
          rcases f2 hw with e | ⟨u, j, e, _, hj⟩
          · rw [e]
          · rw [e]
            simp
            omega
end Mine
end
section
set_option maxRecDepth 100000
namespace Mine
open PySem PySem.W PyProof.Rows PyProof
noncomputable def cod (x : String) : List Int := x.toList.map fun c => (c.toNat : Int)
/-- the words that may begin at a place -/
noncomputable def six : List (List Int) := [[78, 79, 84], [111, 114], [65, 76, 76], [85, 110, 83, 101, 101, 110], [83, 69, 69, 78, 88], [78, 101, 119]]
noncomputable def OkAt (l : List Int) : Prop := l = [] ∨ isL (l.headD 0) = false ∨ ∃ p ∈ six, p <+: l
noncomputable def Good (ks : List Int) : Prop := ∀ i, i ≤ ks.length → Pos0 ks i → OkAt (ks.drop i)
theorem took_prefix {p l : List Int} (h : p <+: l) (hp : ∀ k ∈ p, isL k = true) : p <+: l.takeWhile isL := by
  obtain ⟨t, rfl⟩ := h
  rw [takeWhile_app hp]
  exact List.prefix_append _ _
theorem map_prefix {f : Int → Int} {p l : List Int} (h : p <+: l) : p.map f <+: l.map f := by
  obtain ⟨t, rfl⟩ := h
  rw [List.map_append]
  exact List.prefix_append _ _
/-- the capitals' words -/
noncomputable def sixU : List (List Int) := [[78, 79, 84], [79, 82], [65, 76, 76], [85, 78, 83, 69, 69, 78], [83, 69, 69, 78, 88], [78, 69, 87]]
theorem six_up : ∀ p ∈ six, p.map upL ∈ sixU ∧ ∀ k ∈ p, isL k = true := by decide
theorem wd_six {ks : List Int} {i : Nat} (h : OkAt (ks.drop i)) : took isL ks i = [] ∨ ∃ p ∈ sixU, p <+: (took isL ks i).map upL := by
  unfold took
  rcases h with h | h | ⟨p, hp, h⟩
  · left; rw [h]; rfl
  · left
    cases hd : ks.drop i with
    | nil => rfl
    | cons k r => rw [hd] at h; rw [List.takeWhile_cons, if_neg (by simpa using h)]
  · right
    exact ⟨p.map upL, (six_up p hp).1, map_prefix (took_prefix h (six_up p hp).2)⟩
/-- the words of the other keys -/
noncomputable def others : List Str := ["ANSWERED", "DELETED", "DRAFT", "FLAGGED", "SEEN", "UNANSWERED", "UNDELETED", "UNDRAFT", "UNFLAGGED", "OLD", "RECENT", "KEYWORD", "UNKEYWORD", "BCC", "CC", "FROM", "SUBJECT", "TO", "HEADER", "BODY", "TEXT", "LARGER", "SMALLER", "BEFORE", "ON", "SINCE", "SENTBEFORE", "SENTON", "SENTSINCE", "UID", "MODSEQ"].map Str.ofString
noncomputable def flags5 : List Str := ["ANSWERED", "DELETED", "DRAFT", "FLAGGED", "SEEN"].map Str.ofString
noncomputable def NotOther (W : Str) : Prop := W ∉ others
theorem prefix_dec {p : List Int} {W X : Str} (h : ∃ t, W.cps.toList = p.map Int.toNat ++ t) (hx : ¬ (p.map Int.toNat).isPrefixOf X.cps.toList = true) : W ≠ X := by
  rintro rfl
  obtain ⟨t, e⟩ := h
  rw [e] at hx
  exact hx (List.isPrefixOf_iff_prefix.mpr (List.prefix_append _ _))
theorem six_not : ∀ p ∈ sixU, ∀ X ∈ others, ¬ (p.map Int.toNat).isPrefixOf X.cps.toList = true := by decide +kernel
theorem wd_list {ks : List Int} {i : Nat} : (wdOf ks i).cps.toList = ((took isL ks i).map upL).map Int.toNat := strOf_toList
theorem wd_not {ks : List Int} {i : Nat} (h : OkAt (ks.drop i)) (hne : took isL ks i ≠ []) : NotOther (wdOf ks i) := by
  rcases wd_six h with h | ⟨p, hp, t, ht⟩
  · exact absurd h hne
  · intro hm
    refine prefix_dec (p := p) (W := wdOf ks i) (X := wdOf ks i) ⟨t.map Int.toNat, ?_⟩ (six_not p hp _ hm) rfl
    rw [wd_list, ← ht, List.map_append]
theorem wd_ne {ks : List Int} {i : Nat} (h : took isL ks i = []) : wdOf ks i = Str.ofString "" := by
  unfold wdOf; rw [h]; decide
/-- a word that begins with UN is UNSEEN, or what follows is no flag -/
theorem wd_un {ks : List Int} {i : Nat} (h : OkAt (ks.drop i)) {W2 : Str} (hW : (wdOf ks i).cps.toList = 85 :: 78 :: W2.cps.toList) (hm : W2 ∈ flags5) : wdOf ks i = Str.ofString "UNSEEN" := by
  rcases wd_six h with h | ⟨p, hp, t, ht⟩
  · rw [wd_ne h] at hW; exact absurd hW (by rw [show (Str.ofString "").cps.toList = [] by decide]; simp)
  · rw [wd_list, ← ht, List.map_append] at hW
    have key : ∀ p ∈ sixU, ∀ X ∈ flags5, (p.map Int.toNat).isPrefixOf (85 :: 78 :: X.cps.toList) = true → X = Str.ofString "SEEN" := by decide +kernel
    have e := key p hp W2 hm (by rw [← hW]; exact List.isPrefixOf_iff_prefix.mpr (List.prefix_append _ _))
    apply Str.ext'
    apply Array.toList_inj.mp
    rw [wd_list, ← ht, List.map_append, hW, e]
    decide
/-- how the text grows -/
theorem okat_app {l t : List Int} (h : OkAt l) (hl : l ≠ []) : OkAt (l ++ t) := by
  rcases h with h | h | ⟨p, hp, h⟩
  · exact absurd h hl
  · right; left
    cases l with
    | nil => exact absurd rfl hl
    | cons k r => exact h
  · exact .inr (.inr ⟨p, hp, h.trans (List.prefix_append _ _)⟩)
/-- the law's words -/
noncomputable def lawWords : List (List Int) := [[40], [41], [78, 79, 84], [111, 114], [65, 76, 76], [85, 110, 83, 101, 101, 110], [55], [42, 58, 51], [83, 69, 69, 78, 88], [78, 101, 119]]
noncomputable def lawBlanks : List (List Int) := [[], [32], [32, 32]]
theorem law_piece : ∀ wd ∈ lawWords, ∀ bl ∈ lawBlanks, OkAt (bl ++ wd) ∧ OkAt (wd) ∧ (∀ j, j < (bl ++ wd).length → (j = 0 ∨ (bl ++ wd).getD (j - 1) (-1) = 32 ∨ (bl ++ wd).getD (j - 1) (-1) = 40) → isL (((bl ++ wd).drop j).headD 0) = false ∨ (bl ++ wd).drop j = wd) := by
  have key : ∀ wd ∈ lawWords, isL (wd.headD 0) = false ∨ wd ∈ six := by decide
  intro wd hw bl hb
  refine ⟨?_, ?_, ?_⟩
  · have : ∀ wd ∈ lawWords, ∀ bl ∈ lawBlanks, isL ((bl ++ wd).headD 0) = false ∨ bl ++ wd ∈ six := by decide
    rcases this wd hw bl hb with h | h
    · exact .inr (.inl h)
    · exact .inr (.inr ⟨_, h, List.prefix_rfl⟩)
  · rcases key wd hw with h | h
    · exact .inr (.inl h)
    · exact .inr (.inr ⟨_, h, List.prefix_rfl⟩)
  · have : ∀ wd ∈ lawWords, ∀ bl ∈ lawBlanks, ∀ j, j < (bl ++ wd).length → (j = 0 ∨ (bl ++ wd).getD (j - 1) (-1) = 32 ∨ (bl ++ wd).getD (j - 1) (-1) = 40) → isL (((bl ++ wd).drop j).headD 0) = false ∨ (bl ++ wd).drop j = wd := by decide
    exact this wd hw bl hb
theorem law_okat {wd bl : List Int} (hw : wd ∈ lawWords) (hb : bl ∈ lawBlanks) {j : Nat} (hj : j < (bl ++ wd).length) (h : j = 0 ∨ (bl ++ wd).getD (j - 1) (-1) = 32 ∨ (bl ++ wd).getD (j - 1) (-1) = 40) : OkAt ((bl ++ wd).drop j) := by
  obtain ⟨_, h2, h3⟩ := law_piece wd hw bl hb
  rcases h3 j hj h with q | q
  · exact .inr (.inl q)
  · rw [q]; exact h2
theorem pk_left {a t : List Int} {i : Nat} (h : i < a.length) : pk (a ++ t) i = pk a i := by
  unfold pk
  rw [List.getD_eq_getElem?_getD, List.getD_eq_getElem?_getD, List.getElem?_append_left h]
theorem pk_right {a t : List Int} {i : Nat} (h : a.length ≤ i) : pk (a ++ t) i = pk t (i - a.length) := by
  unfold pk
  rw [List.getD_eq_getElem?_getD, List.getD_eq_getElem?_getD, List.getElem?_append_right h]
theorem good_nil : Good [] := fun i hi _ => .inl (by rw [List.drop_nil])
theorem good_grow {ks wd bl : List Int} (hG : Good ks) (hw : wd ∈ lawWords) (hb : bl ∈ lawBlanks) : Good (ks ++ (bl ++ wd)) := by
  intro i hi hP
  by_cases h1 : i < ks.length
  · rw [List.drop_append_of_le_length (by omega)]
    refine okat_app (hG i (by omega) ?_) (by intro q; have := congrArg List.length q; simp at this; omega)
    rcases hP with rfl | h
    · exact .inl rfl
    · by_cases h0 : i = 0
      · exact .inl h0
      · rw [pk_left (by omega)] at h; exact .inr h
  · by_cases h2 : i = (ks ++ (bl ++ wd)).length
    · rw [h2, List.drop_length]; exact .inl rfl
    · have h3 : i - ks.length < (bl ++ wd).length := by rw [List.length_append] at hi h2; omega
      rw [List.drop_append, List.drop_eq_nil_of_le (by omega), List.nil_append]
      refine law_okat hw hb h3 ?_
      by_cases h0 : i = ks.length
      · left; omega
      · rcases hP with rfl | h
        · omega
        · rw [pk_right (by omega), show i - 1 - ks.length = i - ks.length - 1 by omega] at h
          exact .inr h
theorem okat_of {ks : List Int} {i : Nat} (hG : Good ks) (hi : i ≤ ks.length) (hP : Pos0 ks i) : OkAt (ks.drop i) := hG i hi hP
end Mine
end
section
set_option maxRecDepth 100000
namespace Mine
open PySem PySem.W PyProof.Rows PyProof PySem.Builtin PySem.Builtin.Str
section
variable {ks : List Int} {i j : Int}
theorem slice_ij (h0 : 0 ≤ i) (h1 : i ≤ j) (h2 : j ≤ ks.length) : Txt.slice (strOf ks) (some i) (some j) = strOf ((ks.drop i.toNat).take (j.toNat - i.toNat)) := by
  have := beq_iff_eq.mp (slice_closesL (x := strOf ks) h0 h1 (by rw [strOf_length]; exact h2))
  rw [this]
  apply Str.ext'
  show (((strOf ks).cps.toList.drop i.toNat).take (j - i).toNat).toArray = _
  apply Array.toList_inj.mp
  rw [strOf_toList, strOf_toList, List.map_take, List.map_drop, show (j - i).toNat = j.toNat - i.toNat by omega]
theorem slice_past (h : (ks.length : Int) ≤ i) (h2 : i ≤ j) : Txt.slice (strOf ks) (some i) (some j) = strOf [] := by
  have e1 : strSliceIndices (some i) (some j) 1 (strOf ks).length = strSliceIndices (some (ks.length : Int)) (some (ks.length : Int)) 1 (strOf ks).length := by
    rw [strOf_length]
    have a0 : ¬ i < 0 := by omega
    have a1 : ¬ ((ks.length : Int) < 0) := by omega
    have a2 : ¬ j < 0 := by omega
    simp only [strSliceIndices, a0, a1, a2, if_false, Int.min_self]
    rw [show min i (ks.length : Int) = ks.length by omega, show min j (ks.length : Int) = ks.length by omega]
    simp
  have e : Txt.slice (strOf ks) (some i) (some j) = Txt.slice (strOf ks) (some (ks.length : Int)) (some (ks.length : Int)) := by
    unfold Txt.slice
    rw [e1]
  rw [e, slice_ij (by omega) (Int.le_refl _) (Int.le_refl _)]
  simp
/-- one sign cut out -/
theorem slice_one (h0 : 0 ≤ i) : Txt.slice (strOf ks) (some i) (some (i + 1)) = (if i < ks.length then strOf [pk ks i.toNat] else strOf []) := by
  by_cases h : i < ks.length
  · rw [if_pos h, slice_ij h0 (by omega) (by omega), show (i + 1).toNat - i.toNat = 1 by omega, List.drop_eq_getElem_cons (by omega), List.take_succ_cons, List.take_zero, pk_lt (by omega), List.getD_eq_getElem?_getD, List.getElem?_eq_getElem (by omega)]
    rfl
  · rw [if_neg h, slice_past (by omega) (by omega)]
theorem one_sign {c : Int} {k : Int} {X : Str} (hk : 0 ≤ k) (hc : 0 ≤ c) (hX : X = strOf [c]) : (strOf [k] == X) = decide (k = c) := by
  subst hX
  rw [Bool.eq_iff_iff, beq_iff_eq, decide_eq_true_eq]
  constructor
  · intro h
    have := congrArg (fun z : Str => z.cps.toList) h
    simp only [strOf_toList, List.map_cons, List.map_nil, List.cons.injEq, and_true] at this
    omega
  · intro h; rw [h]
theorem nil_sign {c : Int} {X : Str} (hX : X = strOf [c]) : (strOf [] == X) = false := by
  subst hX
  rw [beq_eq_false_iff_ne]
  intro h
  have := congrArg (fun z : Str => z.cps.toList) h
  simp [strOf_toList] at this
theorem slice_is {c : Int} {X : Str} (hlo : ∀ k ∈ ks, 0 ≤ k ∧ k < (128 : Int)) (h0 : 0 ≤ i) (hc : 0 ≤ c) (hX : X = strOf [c]) : (Txt.slice (strOf ks) (some i) (some (i + 1)) == X) = decide (pk ks i.toNat = c) := by
  rw [slice_one h0]
  by_cases h : i < ks.length
  · rw [if_pos h, one_sign (pk_lo hlo (by omega)).1 hc hX]
  · rw [if_neg h, nil_sign hX, pk_ge (by omega)]
    rw [decide_eq_false (by omega)]
theorem placed_flat (f : Nat → List Nat) (x : Str) : (placed x fun _ c => f c).toList = x.cps.toList.flatMap f := by
  show (x.cps.mapIdx fun _ c => (f c).toArray).flatten.toList = _
  rw [Array.toList_flatten, List.flatMap_def]
  congr 1
  simp [Array.toList_mapIdx, List.mapIdx_eq_zipIdx_map]
  generalize x.cps.toList = l
  generalize (0 : Nat) = n
  induction l generalizing n with
  | nil => rfl
  | cons a r ih => simp [List.zipIdx_cons, ih]
theorem up_code : ∀ c : Nat, c < 128 → ((65 ≤ c ∧ c ≤ 90) ∨ (97 ≤ c ∧ c ≤ 122)) → Unicode.upperOf c = [(upL (c : Int)).toNat] := by decide +kernel
theorem upper_letters {l : List Int} (h : ∀ k ∈ l, isL k = true) : Txt.upper (strOf l) = strOf (l.map upL) := by
  apply Str.ext'
  apply Array.toList_inj.mp
  show (placed (strOf l) fun _ c => Unicode.upperOf c).toList = _
  rw [placed_flat, strOf_toList, strOf_toList]
  induction l with
  | nil => rfl
  | cons k r ih =>
    have hk := h k (List.Mem.head _)
    have ih := ih fun k hk => h k (List.Mem.tail _ hk)
    simp only [isL, Bool.or_eq_true, Bool.and_eq_true, decide_eq_true_eq] at hk
    have e := up_code k.toNat (by omega) (by omega)
    rw [show ((k.toNat : Nat) : Int) = k by omega] at e
    simp only [List.map_cons, List.flatMap_cons, ih, e, List.cons_append, List.nil_append]
/-- a sign of a set of numbers, read in the law's own text -/
theorem in_signs {k : Int} {X : Str} (hX : X.cps.toList = [48, 49, 50, 51, 52, 53, 54, 55, 56, 57, 58, 42]) (h0 : 0 ≤ k) (h44 : k ≠ 44) : (!(Builtin.Str.occurrences X ⟨#[k.toNat]⟩ 0 X.length 1).isEmpty) = isS k := by
  rw [StrLaws.found_one, hX, Bool.eq_iff_iff, decide_eq_true_eq, show [48, 49, 50, 51, 52, 53, 54, 55, 56, 57, 58, 42] = [48, 49, 50, 51, 52, 53, 54, 55, 56, 57] ++ [58, 42] from rfl, List.mem_append, dig_memN]
  simp only [List.mem_cons, List.not_mem_nil, or_false, isS, Bool.or_eq_true, Bool.and_eq_true, decide_eq_true_eq]
  omega
end
end Mine
end
section
set_option Elab.async false
set_option maxRecDepth 100000
set_option maxHeartbeats 4000000
namespace Mine
open PySem PySem.W PySem.Spec PySem.Calls PyProof.Rows PyProof PyProof.Rows.LCg PyProof.Rows.LCt
section
variable {prog : Program} {w : World} {A : Around} {E : Value → Shared → Prop} {s : Shared} {h₀ : Heap} {L : Addr} {m : Str → Option Value} {env : Env}
/-- the end of a test within a comprehension -/
noncomputable def TestEnd (h₀ : Heap) (L : Addr) (m : Str → Option Value) (s₁ : Shared) (ledger : List (Addr × Obj)) (c : Bool) (ok : Bool) (s₂ : Shared) : Prop :=
  ok = c ∧ ∃ h' tk, s₂ = { s₁ with heap := h', toks := tk } ∧ Fr h₀ L h' m ∧ News h₀ L h' ledger
theorem comp_restT {α : Type} {ct elt : Expr} {x : Str} {scope : Scope} {cl : List (Str × Addr)} {P : Nat → Value → Prop} {Fin : List Value → List (Addr × Obj) → Prop} {n : Nat} {news : List (Addr × Obj)}
    {as : List α} {isv : α → Value → Prop} {res : α → Value → Prop} {q : α → Bool} (hn : as.length = n) (hP : ∀ i v, i < n → P i v → ∃ a, as[i]? = some a ∧ isv a v)
    (test : ∀ a v I oI C oC D m₂ ys h tk (E' : Value → Shared → Prop), a ∈ as → isv a v → NsObj oC m₂ → m₂ x = some v → Fr h₀ L h m → News h₀ L h ((I, oI) :: (C, oC) :: (D, lst ys) :: news) → Off3 I C D news → ((@Ne Nat I C) ∧ (@Ne Nat I D) ∧ (@Ne Nat C D)) →
      wpAny (model prog w) A (isTrue ct (compEnvC scope cl C env) (eval ct (compEnvC scope cl C env))) (TestEnd h₀ L m { s with heap := h, toks := tk } ((I, oI) :: (C, oC) :: (D, lst ys) :: news) (q a)) E' { s with heap := h, toks := tk })
    (turn : ∀ a v I oI C oC D m₂ ys h tk (E' : Value → Shared → Prop), a ∈ as → isv a v → q a = true → NsObj oC m₂ → m₂ x = some v → Fr h₀ L h m → News h₀ L h ((I, oI) :: (C, oC) :: (D, lst ys) :: news) → Off3 I C D news → ((@Ne Nat I C) ∧ (@Ne Nat I D) ∧ (@Ne Nat C D)) →
      wpAny (model prog w) A (eval elt (compEnvC scope cl C env)) (EltEnd h₀ L m { s with heap := h, toks := tk } ((I, oI) :: (C, oC) :: (D, lst ys) :: news) (res a)) E' { s with heap := h, toks := tk })
    (fin : ∀ ys, All2 res (as.filter q) ys → Fin ys news) : CompRestT prog w A h₀ L m env ct elt x scope cl s (fun _ => True) P Fin n 0 [] news := by
  have key : ∀ (j i : Nat) (ys : List Value), i + j = n → All2 res ((as.take i).filter q) ys → CompRestT prog w A h₀ L m env ct elt x scope cl s (fun _ => True) P Fin j i ys news := by
    intro j
    induction j with
    | zero =>
      intro i ys hi hy
      have e : i = as.length := by omega
      subst e
      rw [List.take_length] at hy
      exact CompRestT.zero (fin ys hy)
    | succ j ih =>
      intro i ys hi hy
      refine CompRestT.succ ?_
      intro v I oI C oC D m₂ h tk E' hv hC hx F N off ne
      obtain ⟨a, ha, hav⟩ := hP i v (by omega) hv
      have hm := List.mem_of_getElem? ha
      refine wpAny_mono (test a v I oI C oC D m₂ ys h tk E' hm hav hC hx F N off ne) (fun ok s₂ hq => ?_) fun _ _ e => e
      obtain ⟨rfl, h1, tk1, rfl, F1, N1⟩ := hq
      cases hqa : q a with
      | true =>
        rw [if_pos rfl]
        refine wpAny_mono (turn a v I oI C oC D m₂ ys h1 tk1 E' hm hav hqa hC hx F1 N1 off ne) (fun y s₂ hq => ?_) fun _ _ e => e
        obtain ⟨h', tk', e, F', N', hr⟩ := hq
        refine ⟨h', tk', news, e, F', N', off, trivial, ih (i + 1) _ (by omega) ?_⟩
        rw [List.take_add_one, ha, List.filter_append, Option.toList_some, List.filter_cons_of_pos hqa, List.filter_nil]
        exact hy.snoc hr
      | false =>
        rw [if_neg Bool.false_ne_true]
        refine ⟨h1, tk1, news, rfl, F1, N1, off, trivial, ih (i + 1) _ (by omega) ?_⟩
        rw [List.take_add_one, ha, List.filter_append, Option.toList_some, List.filter_cons_of_neg (by rw [hqa]; decide), List.filter_nil, List.append_nil]
        exact hy
  exact key n 0 [] (by omega) (by rw [List.take_zero]; exact .nil)
noncomputable def SrcST (prog : Program) (w : World) (A : Around) (h₀ : Heap) (L : Addr) (m : Str → Option Value) (env : Env) (ct elt : Expr) (x : Str) (scope : Scope) (cl : List (Str × Addr)) (Fin : Shared → List Value → List (Addr × Obj) → Prop) (xv : Value) (s₁ : Shared) : Prop :=
  ∃ u t news, xv = .str u t ∧ u.cps.all (· < 128) = true ∧ A.handled = none ∧ Fr h₀ L s₁.heap m ∧ News h₀ L s₁.heap news ∧ u.cps.size ≤ sizeLine ∧
    ∀ g, CompRestT prog w A h₀ L m env ct elt x scope cl { s₁ with heap := g } (fun _ => True) (SignAt u) (Fin { s₁ with heap := g }) u.cps.size 0 [] news
theorem SrcST.intro {ct elt : Expr} {x : Str} {scope : Scope} {cl : List (Str × Addr)} {Fin : Shared → List Value → List (Addr × Obj) → Prop} {t : Tok} {ks : List Int} {news : List (Addr × Obj)} {s₁ : Shared} {res : Int → Value → Prop} {q : Int → Bool}
    (hh : A.handled = none) (F : Fr h₀ L s₁.heap m) (N : News h₀ L s₁.heap news) (hnn : ∀ k ∈ ks, 0 ≤ k ∧ k < (128 : Int)) (hsz : ks.length ≤ 10000)
    (test : ∀ k t I oI C oC D m₂ ys h tk (E' : Value → Shared → Prop), k ∈ ks → NsObj oC m₂ → m₂ x = some (.str ⟨#[k.toNat]⟩ t) → Fr h₀ L h m → News h₀ L h ((I, oI) :: (C, oC) :: (D, lst ys) :: news) → Off3 I C D news → ((@Ne Nat I C) ∧ (@Ne Nat I D) ∧ (@Ne Nat C D)) →
      wpAny (model prog w) A (isTrue ct (compEnvC scope cl C env) (eval ct (compEnvC scope cl C env))) (TestEnd h₀ L m { s₁ with heap := h, toks := tk } ((I, oI) :: (C, oC) :: (D, lst ys) :: news) (q k)) E' { s₁ with heap := h, toks := tk })
    (turn : ∀ k t I oI C oC D m₂ ys h tk (E' : Value → Shared → Prop), k ∈ ks → NsObj oC m₂ → m₂ x = some (.str ⟨#[k.toNat]⟩ t) → Fr h₀ L h m → News h₀ L h ((I, oI) :: (C, oC) :: (D, lst ys) :: news) → Off3 I C D news → ((@Ne Nat I C) ∧ (@Ne Nat I D) ∧ (@Ne Nat C D)) →
      wpAny (model prog w) A (eval elt (compEnvC scope cl C env)) (EltEnd h₀ L m { s₁ with heap := h, toks := tk } ((I, oI) :: (C, oC) :: (D, lst ys) :: news) (res k)) E' { s₁ with heap := h, toks := tk })
    (fin : ∀ g ys, All2 res (ks.filter q) ys → Fin { s₁ with heap := g } ys news) :
    SrcST prog w A h₀ L m env ct elt x scope cl Fin (.str (strOf ks) t) s₁ := by
  have hl : (strOf ks).cps.size = ks.length := by unfold strOf; simp
  have hal : (strOf ks).cps.all (· < 128) = true := by
    rw [← Array.all_toList, strOf_toList, List.all_eq_true]
    intro c hc
    obtain ⟨k, hk, rfl⟩ := List.mem_map.mp hc
    have := hnn k hk
    simp only [decide_eq_true_eq]; omega
  refine ⟨strOf ks, t, news, rfl, hal, hh, F, N, ?_, fun g => ?_⟩
  · rw [hl]; exact Nat.le_trans hsz (by rw [sizeLine_eq]; omega)
  · refine comp_restT (as := ks) (isv := fun k v => ∃ t, v = .str ⟨#[k.toNat]⟩ t) (res := res) (q := q) hl.symm (fun i v hi hv => ?_) (fun k v I oI C oC D m₂ ys h tk E' hk hv hC hx F N off ne => ?_) (fun k v I oI C oC D m₂ ys h tk E' hk hv _ hC hx F N off ne => ?_) (fin g)
    · obtain ⟨c, u, hc, rfl⟩ := hv
      unfold strOf at hc
      simp only [List.getElem?_toArray, List.getElem?_map, Option.map_eq_some_iff] at hc
      obtain ⟨k, hk, rfl⟩ := hc
      exact ⟨k, hk, u, rfl⟩
    · obtain ⟨t, rfl⟩ := hv
      exact test k t I oI C oC D m₂ ys h tk E' hk hC hx F N off ne
    · obtain ⟨t, rfl⟩ := hv
      exact turn k t I oI C oC D m₂ ys h tk E' hk hC hx F N off ne
theorem Assign_comp_ST {ct elt iter : Expr} {x y : Str} {px py : Pos} {scope : Scope} {cl : List (Str × Addr)} {pos spos : Pos} {Q : Flow → Shared → Prop} (F₀ : Fr h₀ L s.heap m) (hLe : env.locals = L)
    (hsw : swapsWith (.ListComp elt [⟨.Name x px, iter, [ct], 0⟩] scope pos) (some (.Name y py)) spos.line env = pure true)
    (hclos : closureFor scope env = pure cl) (hcell : ∀ z ∈ scope.names, z.2 ≠ .cell) (hkind : scope.kind = .function)
    (hnames : ∀ z ∈ scope.names, z.2 = .local → scope.names.lookup z.1 = some .local) (hx : scope.names.lookup x = some .local)
    (hy : env.kindOf y = some .local) (hp : (env.scope.kind == .class || (env.scope.kind == .module && env.locals != env.globals)) = false)
    (h : wpAny (model prog w) A (eval iter env) (SrcST prog w A h₀ L m env ct elt x scope cl (fun s₂ => FinA h₀ L m s₂ y Q)) E s)
    (hs : ∀ x, foldedSetIterable iter env x = pure x := by intro _; rfl) :
    wpAny (model prog w) A (exec (.Assign [.Name y py] (.ListComp elt [⟨.Name x px, iter, [ct], 0⟩] scope pos) spos) env) Q E s := by
  subst hLe
  rw [exec_Assign_Name_used _ _ _ _ hsw]
  refine wpAny_bind (wpAny_standAt (wpAny_bind ?_))
  show wpAny _ A (do let _ ← comprehension (.ListComp elt [⟨.Name x px, iter, [ct], 0⟩] scope pos) scope env _ (newList []) false (eval iter env) (some (assign (.Name y py) env))) _ _ s
  refine wpAny_bind (wpAny_mono (wpAny_comprehension_free (use := some (assign (.Name y py) env)) (Q := fun _ s' => Q .next s') rfl hs hclos hkind hnames
    (wpAny_mono h (fun xv s₁ h₁ => ?_) fun _ _ e => e)) (fun _ s' hq => wpAny_pure (wpAny_pure hq)) fun _ _ e => e)
  obtain ⟨u, t, news, rfl, ha, hh, F, N, hsz, R⟩ := h₁
  refine wpAny_pyIter_ascii ha ?_
  have up : ∀ a o, s₁.heap.get? a = some o → (s₁.heap.push { cls := .type "str_ascii_iterator", data := .fields #[.str u t, .int 0 0] }).get? a = some o := fun a o e => Heap.get?_push_of_some _ e
  refine block_T (Walks.strAscii hh s₁.heap.objs.size u t) hsz (fun i h st => by obtain ⟨o, e, _⟩ := st; exact ⟨o, e⟩) (fun i h h' o nw st e e' _ _ _ => by obtain ⟨o', q, r⟩ := st; rw [e] at q; cases q; exact ⟨o, e', r⟩) hcell hkind hx ⟨_, Heap.get?_push_size _ rfl, rfl, rfl⟩ (fun a ha => ?_)
    (F.keeps up) (N.grown up) (Nat.ne_of_lt F.ns.lt) (next_is_new F) (fun p hp => Nat.ne_of_lt (Heap.lt_size (N p hp).1)) trivial (R _) ?_
  · rw [List.mem_singleton.mp ha]
    show s₁.heap.objs.size < (s₁.heap.push _).objs.size
    rw [Heap.size_push]; exact Nat.lt_succ_self _
  · intro D C h' tk m' ys news' F' N' o1 hn hC₀ hD₀ hCL hDL hCD offC fin
    show wpAny _ A (assign (.Name y py) env (.ref D)) _ _ _
    refine wpAny_assign_Name (wpAny_storeName_local hy F'.ns (fun h₂ hn₂ hs₂ => ?_) hp)
    have hL₀ : h₀.get? env.locals = none := Heap.get?_none_of_le F'.above
    have F₂ : Fr h₀ env.locals h₂ (fun z => if z = y then some (.ref D) else m z) := ⟨hn₂, fun b o e => hs₂.extBut b o (fun q => by rw [q, hL₀] at e; cases e) (F'.keep b o e), F'.above⟩
    refine ⟨m', hn.sameBut hs₂ hCL, fun h'' hs'' => fin D h'' _ (F₂.change hs'' hCL hC₀) (fun p hp => ?_) o1⟩
    have z : h₂.get? p.1 = some p.2 := hs₂.extBut _ _ (N' p hp).2.1 (N' p hp).1
    refine ⟨hs''.extBut _ _ ?_ z, (N' p hp).2⟩
    rcases List.mem_cons.mp hp with rfl | hp
    · exact Ne.symm hCD
    · exact offC p hp
end
end Mine
end
section
open PySem PySem.W PyProof.Rows
open Lean Elab Tactic Meta
set_option Elab.async false
set_option maxRecDepth 100000
set_option maxHeartbeats 8000000
namespace Mine
/-- all but the object at d is kept -/
noncomputable def Kept (d : Addr) (news nx : List (Addr × Obj)) : Prop := ∀ q ∈ news, q.1 ≠ d → q ∈ nx
theorem Kept.refl (d : Addr) (news : List (Addr × Obj)) : Kept d news news := fun _ h _ => h
theorem Kept.trans {d : Addr} {l₁ l₂ l₃ : List (Addr × Obj)} (x : Kept d l₁ l₂) (y : Kept d l₂ l₃) : Kept d l₁ l₃ := fun q h n => y q (x q h n) n
theorem Kept.upd (d : Addr) (o : Obj) (news : List (Addr × Obj)) : Kept d news (upd d o news) := fun _ h n => upd_ne h n
theorem Kept.cons {d : Addr} {l₁ l₂ : List (Addr × Obj)} (x : Kept d l₁ l₂) (p : Addr × Obj) : Kept d l₁ (p :: l₂) := fun q h n => List.Mem.tail _ (x q h n)
theorem setW_at {prog : Program} {w : World} {A : Around} {E : Value → Shared → Prop} {s : Shared} {h₀ : Heap} {L : Addr} {m : Str → Option Value} {news : List (Addr × Obj)} {x d : Addr} {h1 h2 : Int} {t1 t2 tb ta tv : Tok} {b : Array UInt8} {at_ v : Int} {n : Nat} {Q : Unit → Shared → Prop}
    (F : Fr h₀ L s.heap m) (X : (Mine.laid.heap_1 w.params).In h₀) (N : News h₀ L s.heap news) (hx : (x, instObj 665 d) ∈ news) (hd : (d, wdict h1 h2 t1 t2 tb ta b at_ n) ∈ news)
    (h : ∀ h', Fr h₀ L h' m → News h₀ L h' (upd d (wdict h1 h2 t1 t2 tb tv b v n) news) → Q () { s with heap := h', toks := s.toks + 2 }) :
    wpAny (model prog w) A (setAttr (.ref x) (Str.ofString "at") (.int v tv)) Q E s := by
  have N2 : News h₀ L s.heap (upd d (wdict h1 h2 t1 t2 tb ta b at_ n) news) := fun p hp => by
    rcases List.mem_cons.mp hp with rfl | hp
    · exact N _ hd
    · exact N p (List.mem_filter.mp hp).1
  refine set_dict (K := Mine.laid.heap_1 w.params) (C := 665) (n := n) (n' := n) (es := [⟨h1, .str (Str.ofString "data") t1, .bytes b tb⟩, ⟨h2, .str (Str.ofString "at") t2, .int at_ ta⟩]) (es' := [⟨h1, .str (Str.ofString "data") t1, .bytes b tb⟩, ⟨h2, .str (Str.ofString "at") t2, .int v tv⟩]) F X N2 (InstAt.of_news N hx hd) rfl ?_ ?_ ?_ ?_ ?_ ?_ ?_ ?_ h
  · k_dflt k_is
  · k_dflt k_is
  · k_dflt k_is
  · k_dflt k_is
  · rfl
  · rfl
  · refine Upd.head ?_
    intro p hp
    simpa using (List.mem_filter.mp hp).2
  · exact Nat.le_of_ble_eq_true rfl
section
variable {prog : Program} {w : World} {mean : ExcName → Option Value} {mg mb : Str → Option Value}
    {dp un : Nat} {gd : Option (List Code)} {cn : Str} {cs : Scope} {a : Addr} {ccd : Value} {cl : List (Str × Addr)} {outer : List Env} {A₀ : Around} {base h₀ : Heap} {L : Addr} {m : Str → Option Value} {news : List (Addr × Obj)} {s : Shared}
    {Q E : Value → Shared → Prop}
    (B : Below A₀ base outer h₀) (F : Fr h₀ L s.heap m) (X : (Mine.laid.heap_1 w.params).In h₀) (N : News h₀ L s.heap news) (T : Top Mine.vw LL mean mg mb h₀) (hk : cs.kind = .function)
include B F X N T hk
variable {x d : Addr} {h1 h2 : Int} {t1 t2 tb ta : Tok} {b : Array UInt8} {ks : List Int} {at_ : Int} {n : Nat}
    (hx : (x, instObj 665 d) ∈ news) (hd : (d, wdict h1 h2 t1 t2 tb ta b at_ n) ∈ news) (hb : KBw.bInts b = ks) (hlen : ks.length ≤ 10000) (h0 : 0 ≤ at_) (hl : at_ ≤ ks.length)
include hx hd hb hlen h0 hl
theorem walkWords4 : True := by
  w_top off
  k_with_none
  k_with "setAttr ref" => (k_here; (with_reducible show wpAny _ _ (setAttr (Value.ref _) (PySem.Str.ofString "at") (Value.int _ _)) _ _ _); k_dflt (refine' setW_at ?q9F ?q9X ?q9N ?q9x ?q9d ?_; (case q9F => k_asm); (case q9X => k_asm); (case q9N => k_asm); (case q9x => k_mem); (case q9d => k_mem); k_whole); intro z9h' z9F' z9N')
  k_with "exec Raise some none" => (k_here; k_dflt (refine' RaiseX ?q9hh ?_; (case q9hh => exact rfl); k_whole))
  k_with "RaisableX" => (k_here; k_dflt (refine' ⟨_, _, _, _, rfl, News.get ?q9N ?q9m, xcls_of (K := Mine.laid.heap_1 _) (Frag.In.keeps ?q9X (Fr.keep ?q9F)) ?q9q, ?_⟩; (case q9F => k_asm); (case q9N => k_asm); (case q9m => k_mem); (case q9X => k_asm); (case q9q => kernel_rfl); k_whole))
  k_with "leaving ref" => (k_here; k_dflt (first
  | (refine' leave_own (ctx := Value.none) ?q9K ?q9F ?q9N ?q9ne ?_ ?q9hk; (case q9F => k_asm); (case q9N => k_asm); (case q9K => k_asm); (case q9ne => assumption); (case q9hk => exact rfl); k_whole; intro z9h' z9R' z9Th' z9U')
  | (refine' leave_onSN ?q9K ?q9F ?q9R ?q9U ?_; (case q9R => assumption); (case q9F => assumption); (case q9K => k_asm); (case q9U => assumption); k_whole; intro z9h' z9R' _ z9U')))
  trivial
theorem peek_spec 
    (hdp : dp + 2 < recursionLimit) (hun : un + 16 < cLine)
    (ret : ∀ h' tk' tv, Fr h₀ L h' m → News h₀ L h' news → Q (.int (pk ks at_.toNat) tv) { s with heap := h', toks := tk' }) :
    wpAny (model prog w) (ktrTop dp un gd cn cs L a ccd cl outer) (call (.ref 509) [.ref x]) Q E s := by
  refine wpAny_call ?_
  k_dflt ktr_enter
  k_steps
  · rw [← pk_lt (by omega)]; exact ret _ _ _ (by k_asm) (by k_asm)
  · rw [← pk_ge (ks := ks) (i := at_.toNat) (by omega)]; exact ret _ _ _ (by k_asm) (by k_asm)
theorem skip_spec {c : UInt8} {to : Tok}
    (hdp : dp + 2 < recursionLimit) (hun : un + 16 < cLine)
    (yes : pk ks at_.toNat = (c.toNat : Int) → ∀ nx h' tk' ta', Fr h₀ L h' m → News h₀ L h' nx → Kept d news nx → (d, wdict h1 h2 t1 t2 tb ta' b (at_ + 1) n) ∈ nx → Q (.bool true) { s with heap := h', toks := tk' })
    (no : pk ks at_.toNat ≠ (c.toNat : Int) → ∀ h' tk', Fr h₀ L h' m → News h₀ L h' news → Q (.bool false) { s with heap := h', toks := tk' }) :
    wpAny (model prog w) (ktrTop dp un gd cn cs L a ccd cl outer) (call (.ref 516) [.ref x, .bytes #[c] to]) Q E s := by
  refine wpAny_call ?_
  k_dflt ktr_enter
  k_steps
  · (rename KBw.bInts _ = List.take _ _ => hK); (rename bne _ _ = true => hc)
    rw [show (#[c] : Array UInt8).toList = [c] from rfl] at hc
    rw [skip_cmp hK h0 hl, Bool.not_eq_true', decide_eq_false_iff_not] at hc
    exact no hc _ _ (by k_asm) (by k_asm)
  · (rename KBw.bInts _ = List.take _ _ => hK); (rename bne _ _ = false => hc)
    rw [show (#[c] : Array UInt8).toList = [c] from rfl] at hc
    rw [skip_cmp hK h0 hl, Bool.not_eq_false', decide_eq_true_eq] at hc
    exact yes hc _ _ _ _ (by k_asm) (by k_asm) (Kept.upd _ _ _) upd_self
theorem walkWords5 : True := by
  w_top off
  k_with_none
  k_with "my enter" => ((refine' code_def ?q9k1 ?q9k2 ?q9k3 ?q9k4 ?q9k5 ?q9kA ?q9kF ?q9kK ?q9k6 ?q9k7 ?q9k8 ?q9k9 ?q9kB ?_ ?q9c2 ?q9c3 ?q9c4 ?q9c5; (case q9kA => exact rfl); (case q9kF => exact rfl); (case q9kK => first | exact rfl | assumption); (case q9k1 => k_asm); (case q9k2 => k_asm); (case q9k3 => k_asm); (case q9k4 => k_asm); (case q9k5 => k_asm); (case q9k6 => k_is); (case q9k7 => k_is); (case q9k8 => ktr_room); (case q9k9 => first | exact binds_K (by k_in) rfl (by k_is) rfl rfl rfl | exact BindsTo.of_eq rfl); (case q9c5 => decide); (case q9kB => exact locs rfl); (case q9c2 => exact rfl); (case q9c3 => exact rfl); (case q9c4 => exact rfl); k_whole; intro z9g' z9L' z9h' z9FG' z9F' z9N' z9B' z9X' z9T'; (try dsimp only); (try k_fold)))
  k_with "setAttr ref" => (k_here; (with_reducible show wpAny _ _ (setAttr (Value.ref _) (PySem.Str.ofString "at") (Value.int _ _)) _ _ _); k_dflt (refine' setW_at ?q9F ?q9X ?q9N ?q9x ?q9d ?_; (case q9F => k_asm); (case q9X => k_asm); (case q9N => k_asm); (case q9x => k_mem); (case q9d => k_mem); k_whole); intro z9h' z9F' z9N')
  k_with "exec Raise some none" => (k_here; k_dflt (refine' RaiseX ?q9hh ?_; (case q9hh => exact rfl); k_whole))
  k_with "RaisableX" => (k_here; k_dflt (refine' ⟨_, _, _, _, rfl, News.get ?q9N ?q9m, xcls_of (K := Mine.laid.heap_1 _) (Frag.In.keeps ?q9X (Fr.keep ?q9F)) ?q9q, ?_⟩; (case q9F => k_asm); (case q9N => k_asm); (case q9m => k_mem); (case q9X => k_asm); (case q9q => kernel_rfl); k_whole))
  k_with "leaving ref" => (k_here; k_dflt (first
  | (refine' leave_own (ctx := Value.none) ?q9K ?q9F ?q9N ?q9ne ?_ ?q9hk; (case q9F => k_asm); (case q9N => k_asm); (case q9K => k_asm); (case q9ne => assumption); (case q9hk => exact rfl); k_whole; intro z9h' z9R' z9Th' z9U')
  | (refine' leave_onSN ?q9K ?q9F ?q9R ?q9U ?_; (case q9R => assumption); (case q9F => assumption); (case q9K => k_asm); (case q9U => assumption); k_whole; intro z9h' z9R' _ z9U')))
  k_with "call ref" => ((with_reducible show wpAny _ _ (PySem.call (Value.ref 502) _) _ _ _); k_here; k_dflt (refine wpAny_call ?_; (walk_at "my enter")))
  k_with "call ref" => ((with_reducible show wpAny _ _ (PySem.call (Value.ref 95) _) _ _ _); k_here; k_dflt (refine' mk_exc ?q9kB ?q9kF ?q9kX ?q9kN ?q9kT ?q9kk ?q9kc ?q9kc2 ?q9q1 ?q9q2 ?q9q3 ?q9q4 ?q9kr ?q9ku ?q9ret; (case q9kB => k_asm); (case q9kF => k_asm); (case q9kX => k_asm); (case q9kN => k_asm); (case q9kT => k_asm); (case q9kk => first | exact rfl | assumption); (case q9kc => kernel_rfl); (case q9kc2 => kernel_rfl); (case q9q1 => k_is); (case q9q2 => k_is); (case q9q3 => k_is); (case q9q4 => k_is); (case q9kr => ktr_room); (case q9ku => ktr_units); k_whole); intro z9e z9t z9dd z9k1 z9k2 z9t1 z9t2 z9h' z9tk' z9F' z9N' z9hne z9hlt)
  k_with "call ref" => ((with_reducible show wpAny _ _ (PySem.call (Value.ref 516) _) _ _ _); k_here; k_dflt (refine' skip_spec ?q9kB ?q9kF ?q9kX ?q9kN ?q9kT ?q9kk ?q9kx ?q9kd ?q9kb ?q9ke ?q9k0 ?q9kl ?q9kr ?q9ku ?q9yes ?q9no; (case q9kB => k_asm); (case q9kF => k_asm); (case q9kX => k_asm); (case q9kN => k_asm); (case q9kT => k_asm); (case q9kk => first | exact rfl | assumption); (case q9kx => first | k_mem | assumption); (case q9kd => first | k_mem | assumption); (case q9kb => assumption); (case q9ke => assumption); (case q9k0 => first | assumption | omega); (case q9kl => first | assumption | omega); (case q9kr => ktr_room); (case q9ku => ktr_units); k_whole); (case' q9yes => intro z9hc z9nx z9h' z9tk' z9ta' z9F' z9N' z9hK' z9hd'); (case' q9no => intro z9hc z9h' z9tk' z9F' z9N'))
  trivial
theorem need_spec {c : UInt8} {to tw : Tok} {wh : Str} (hsz : wh.length ≤ 1000)
    (hdp : dp + 6 < recursionLimit) (hun : un + 32 < cLine)
    (ret : pk ks at_.toNat = (c.toNat : Int) → ∀ nx h' tk' ta', Fr h₀ L h' m → News h₀ L h' nx → Kept d news nx → (d, wdict h1 h2 t1 t2 tb ta' b (at_ + 1) n) ∈ nx → Q .none { s with heap := h', toks := tk' })
    (exc : pk ks at_.toNat ≠ (c.toNat : Int) → ∀ g e nx h' tk', Fr h₀ L g m → RaisedSN base g (envX cn cs L a ccd cl :: outer) e (.ref 95) nx h' → g.UpToSlots h' → Kept d news nx → E (.ref e) { s with heap := h', toks := tk' }) :
    wpAny (model prog w) (ktrTop dp un gd cn cs L a ccd cl outer) (call (.ref 523) [.ref x, .bytes #[c] to, .str wh tw]) Q E s := by
  refine wpAny_call ?_
  k_dflt ktr_enter
  k_steps
  · exact exc (by assumption) _ _ _ _ _ (by assumption) (by assumption) (by assumption) ((Kept.refl _ _).cons _)
  · exact ret (by assumption) _ _ _ _ (by k_asm) (by k_asm) (by assumption) (by assumption)
theorem walkWords6 : True := by
  w_top off
  k_with "call ref" => ((with_reducible show wpAny _ _ (PySem.call (Value.ref 523) _) _ _ _); k_here; k_dflt (refine' need_spec ?q9kB ?q9kF ?q9kX ?q9kN ?q9kT ?q9kk ?q9kx ?q9kd ?q9kb ?q9ke ?q9k0 ?q9kl ?q9ks ?q9kr ?q9ku ?q9ret ?q9exc; (case q9kB => k_asm); (case q9kF => k_asm); (case q9kX => k_asm); (case q9kN => k_asm); (case q9kT => k_asm); (case q9kk => first | exact rfl | assumption); (case q9kx => first | k_mem | assumption); (case q9kd => first | k_mem | assumption); (case q9kb => assumption); (case q9ke => assumption); (case q9k0 => first | assumption | omega); (case q9kl => first | assumption | omega); (case q9ks => first | decide | size_fits); (case q9kr => ktr_room); (case q9ku => ktr_units); k_whole); (case' q9ret => intro z9hc z9nx z9h' z9tk' z9ta' z9F' z9N' z9hK' z9hd'); (case' q9exc => intro z9hc z9g z9e z9nx z9h' z9tk' z9FG' z9R' z9U' z9hK'))
  trivial
theorem space_spec
    (hdp : dp + 7 < recursionLimit) (hun : un + 40 < cLine)
    (ret : pk ks at_.toNat = 32 → ∀ nx h' tk' ta', Fr h₀ L h' m → News h₀ L h' nx → Kept d news nx → (d, wdict h1 h2 t1 t2 tb ta' b (at_ + 1) n) ∈ nx → Q .none { s with heap := h', toks := tk' })
    (exc : pk ks at_.toNat ≠ 32 → ∀ g e nx h' tk', Fr h₀ L g m → RaisedSN base g (envX cn cs L a ccd cl :: outer) e (.ref 95) nx h' → g.UpToSlots h' → Kept d news nx → E (.ref e) { s with heap := h', toks := tk' }) :
    wpAny (model prog w) (ktrTop dp un gd cn cs L a ccd cl outer) (call (.ref 530) [.ref x]) Q E s := by
  refine wpAny_call ?_
  k_dflt (walk_at "my enter")
  k_steps
  · rename pk _ _ ≠ _ => hc; exact exc hc _ _ _ _ _ (by assumption) (by assumption) (by assumption) (by assumption)
  · rename pk _ _ = _ => hc; exact ret hc _ _ _ _ (by k_asm) (by k_asm) (by assumption) (by assumption)
end
end Mine
end
section
set_option Elab.async false
set_option maxRecDepth 100000
set_option maxHeartbeats 4000000
namespace Mine
open PySem PySem.W PySem.Spec PySem.Calls PyProof.Rows PyProof
theorem contains_ints {b : Array UInt8} {k : Int} (h0 : 0 ≤ k) (h1 : k < 256) : b.contains k.toNat.toUInt8 = (KBw.bInts b).contains k := by
  have e : ((k.toNat.toUInt8).toNat : Int) = k := by
    rw [Nat.toUInt8_eq, UInt8.toNat_ofNat']
    omega
  rw [Bool.eq_iff_iff]
  unfold KBw.bInts
  simp only [Array.contains_iff_mem, List.contains_iff_mem, List.mem_map, Array.mem_toList_iff]
  constructor
  · intro h; exact ⟨_, h, e⟩
  · rintro ⟨c, hc, q⟩
    have : k.toNat.toUInt8 = c := by
      apply UInt8.toNat_inj.mp
      omega
    rw [this]; exact hc
theorem gives_bytes_in {b : Array UInt8} {t tb : Tok} {k : Int} (h0 : 0 ≤ k) (h1 : k < 256) : Gives (Builtin.«bytes.__contains__» ⟨[.bytes b tb, .int k t], []⟩) (.val (.bool ((KBw.bInts b).contains k))) :=
  .of_wp fun M A E s Q h => by
    have hc1 : decide (k < 0) = false := decide_eq_false (by omega)
    have hc2 : decide (k ≥ 256) = false := decide_eq_false (by omega)
    rw [← contains_ints h0 h1] at h
    unfold Builtin.«bytes.__contains__»
    refine wpAny_bind (wpAny_of_eq (a := (Value.bytes b tb, [Value.int k t])) (by first | rfl | kernel_rfl) ?_)
    show wpAny M A (PySem.Builtin.Bytes.containsIn "bytes.__contains__" (Value.bytes b tb) (Value.int k t) >>= _) _ _ _
    refine wpAny_bind ?_
    unfold PySem.Builtin.Bytes.containsIn
    refine wpAny_bind (wpAny_of_eq (a := (Except.ok k : Except Value Int)) (by first | rfl | kernel_rfl) ?_)
    refine wpAny_bind (wpAny_of_eq (a := some b) (by first | rfl | kernel_rfl) ?_)
    dsimp only
    rw [if_neg (by rw [hc1, hc2]; decide)]
    exact wpAny_pure (wpAny_pure ⟨_, rfl, h⟩)
theorem in_bytes {prog : Program} {w : World} {A : Around} {E : Value → Shared → Prop} {s : Shared} {b : Array UInt8} {t tb : Tok} {k : Int} {Q : Value → Shared → Prop} (h0 : 0 ≤ k) (h1 : k < 256) (h : Q (.bool ((KBw.bInts b).contains k)) s) :
    wpAny (model prog w) A (compareOp .In (.int k t) (.bytes b tb)) Q E s :=
  in_gives (typeIs_bytes s b tb) FB.slot_bytes_contains FB.entry_bytes_contains (FB.args_bytes_contains_2 _ _) (gives_bytes_in h0 h1) h
end Mine
end
section
open PySem PySem.W PyProof.Rows
open Lean Elab Tactic Meta
set_option Elab.async false
set_option maxRecDepth 100000
set_option maxHeartbeats 8000000
namespace Mine
theorem conv_bool {Q : Value → Shared → Prop} {v v' : Bool} {s : Shared} (e : v = v') (h : Q (.bool v') s) : Q (.bool v) s := e ▸ h
theorem set_signs {k : Int} : (KBw.bInts #[58, 44, 42]).contains k = (decide (k = 58) || decide (k = 44) || decide (k = 42)) := by
  show [(58 : Int), 44, 42].contains k = _
  simp [List.contains_cons, Bool.or_assoc]
section
variable {prog : Program} {w : World} {mean : ExcName → Option Value} {mg mb : Str → Option Value}
    {dp un : Nat} {gd : Option (List Code)} {cn : Str} {cs : Scope} {a : Addr} {ccd : Value} {cl : List (Str × Addr)} {outer : List Env} {A₀ : Around} {base h₀ : Heap} {L : Addr} {m : Str → Option Value} {news : List (Addr × Obj)} {s : Shared}
    {Q E : Value → Shared → Prop}
    (B : Below A₀ base outer h₀) (F : Fr h₀ L s.heap m) (X : (Mine.laid.heap_1 w.params).In h₀) (N : News h₀ L s.heap news) (T : Top Mine.vw LL mean mg mb h₀) (hk : cs.kind = .function)
include B F X N T hk
theorem walkWords7 : True := by
  w_top off
  k_with_none
  k_with "my enter" => ((refine' code_def ?q9k1 ?q9k2 ?q9k3 ?q9k4 ?q9k5 ?q9kA ?q9kF ?q9kK ?q9k6 ?q9k7 ?q9k8 ?q9k9 ?q9kB ?_ ?q9c2 ?q9c3 ?q9c4 ?q9c5; (case q9kA => exact rfl); (case q9kF => exact rfl); (case q9kK => first | exact rfl | assumption); (case q9k1 => k_asm); (case q9k2 => k_asm); (case q9k3 => k_asm); (case q9k4 => k_asm); (case q9k5 => k_asm); (case q9k6 => k_is); (case q9k7 => k_is); (case q9k8 => ktr_room); (case q9k9 => first | exact binds_K (by k_in) rfl (by k_is) rfl rfl rfl | exact BindsTo.of_eq rfl); (case q9c5 => decide); (case q9kB => exact locs rfl); (case q9c2 => exact rfl); (case q9c3 => exact rfl); (case q9c4 => exact rfl); k_whole; intro z9g' z9L' z9h' z9FG' z9F' z9N' z9B' z9X' z9T'; (try dsimp only); (try k_fold)))
  k_with "setAttr ref" => (k_here; (with_reducible show wpAny _ _ (setAttr (Value.ref _) (PySem.Str.ofString "at") (Value.int _ _)) _ _ _); k_dflt (refine' setW_at ?q9F ?q9X ?q9N ?q9x ?q9d ?_; (case q9F => k_asm); (case q9X => k_asm); (case q9N => k_asm); (case q9x => k_mem); (case q9d => k_mem); k_whole); intro z9h' z9F' z9N')
  k_with "exec Raise some none" => (k_here; k_dflt (refine' RaiseX ?q9hh ?_; (case q9hh => exact rfl); k_whole))
  k_with "RaisableX" => (k_here; k_dflt (refine' ⟨_, _, _, _, rfl, News.get ?q9N ?q9m, xcls_of (K := Mine.laid.heap_1 _) (Frag.In.keeps ?q9X (Fr.keep ?q9F)) ?q9q, ?_⟩; (case q9F => k_asm); (case q9N => k_asm); (case q9m => k_mem); (case q9X => k_asm); (case q9q => kernel_rfl); k_whole))
  k_with "leaving ref" => (k_here; k_dflt (first
  | (refine' leave_own (ctx := Value.none) ?q9K ?q9F ?q9N ?q9ne ?_ ?q9hk; (case q9F => k_asm); (case q9N => k_asm); (case q9K => k_asm); (case q9ne => assumption); (case q9hk => exact rfl); k_whole; intro z9h' z9R' z9Th' z9U')
  | (refine' leave_thrown ?q9K ?q9F ?q9R ?q9U ?_; (case q9R => assumption); (case q9F => assumption); (case q9K => k_asm); (case q9U => assumption); k_whole; intro z9h' z9Th' z9U')
  | (refine' leave_onSN ?q9K ?q9F ?q9R ?q9U ?_; (case q9R => assumption); (case q9F => assumption); (case q9K => k_asm); (case q9U => assumption); k_whole; intro z9h' z9R' _ z9U')))
  k_with "call ref" => ((with_reducible show wpAny _ _ (PySem.call (Value.ref 502) _) _ _ _); k_here; k_dflt (refine wpAny_call ?_; (walk_at "my enter")))
  k_with "call ref" => ((with_reducible show wpAny _ _ (PySem.call (Value.ref 95) _) _ _ _); k_here; k_dflt (refine' mk_exc ?q9kB ?q9kF ?q9kX ?q9kN ?q9kT ?q9kk ?q9kc ?q9kc2 ?q9q1 ?q9q2 ?q9q3 ?q9q4 ?q9kr ?q9ku ?_; (case q9kB => k_asm); (case q9kF => k_asm); (case q9kX => k_asm); (case q9kN => k_asm); (case q9kT => k_asm); (case q9kk => first | exact rfl | assumption); (case q9kc => kernel_rfl); (case q9kc2 => kernel_rfl); (case q9q1 => k_is); (case q9q2 => k_is); (case q9q3 => k_is); (case q9q4 => k_is); (case q9kr => ktr_room); (case q9ku => ktr_units); k_whole); (intro z9e z9t z9dd z9k1 z9k2 z9t1 z9t2 z9h' z9tk' z9F' z9N' z9hne z9hlt))
  k_with "call ref" => ((with_reducible show wpAny _ _ (PySem.call (Value.ref 509) _) _ _ _); k_here; k_dflt (refine' peek_spec ?q9kB ?q9kF ?q9kX ?q9kN ?q9kT ?q9kk ?q9kx ?q9kd ?q9kb ?q9ke ?q9k0 ?q9kl ?q9kr ?q9ku ?_; (case q9kB => k_asm); (case q9kF => k_asm); (case q9kX => k_asm); (case q9kN => k_asm); (case q9kT => k_asm); (case q9kk => first | exact rfl | assumption); (case q9kx => first | k_mem | assumption); (case q9kd => first | k_mem | assumption); (case q9kb => assumption); (case q9ke => assumption); (case q9k0 => first | assumption | omega); (case q9kl => first | assumption | omega); (case q9kr => ktr_room); (case q9ku => ktr_units); k_whole); (intro z9h' z9tk' z9tv z9F' z9N'))
  k_with "call ref" => ((with_reducible show wpAny _ _ (PySem.call (Value.ref 516) _) _ _ _); k_here; k_dflt (refine' skip_spec ?q9kB ?q9kF ?q9kX ?q9kN ?q9kT ?q9kk ?q9kx ?q9kd ?q9kb ?q9ke ?q9k0 ?q9kl ?q9kr ?q9ku ?_ ?_; (case q9kB => k_asm); (case q9kF => k_asm); (case q9kX => k_asm); (case q9kN => k_asm); (case q9kT => k_asm); (case q9kk => first | exact rfl | assumption); (case q9kx => first | k_mem | assumption); (case q9kd => first | k_mem | assumption); (case q9kb => assumption); (case q9ke => assumption); (case q9k0 => first | assumption | omega); (case q9kl => first | assumption | omega); (case q9kr => ktr_room); (case q9ku => ktr_units); k_whole); (intro z9hc z9nx z9h' z9tk' z9ta' z9F' z9N' z9hK' z9hd'; (try (k_dflt (have z9hx' := z9hK' (_, instObj 665 _) (by first | assumption | k_mem) (by first | assumption | k_ne))))); rotate_left; (intro z9hc z9h' z9tk' z9F' z9N'); rotate_left)
  k_with "call ref" => ((with_reducible show wpAny _ _ (PySem.call (Value.ref 523) _) _ _ _); k_here; k_dflt (refine' need_spec ?q9kB ?q9kF ?q9kX ?q9kN ?q9kT ?q9kk ?q9kx ?q9kd ?q9kb ?q9ke ?q9k0 ?q9kl ?q9ks ?q9kr ?q9ku ?_ ?_; (case q9kB => k_asm); (case q9kF => k_asm); (case q9kX => k_asm); (case q9kN => k_asm); (case q9kT => k_asm); (case q9kk => first | exact rfl | assumption); (case q9kx => first | k_mem | assumption); (case q9kd => first | k_mem | assumption); (case q9kb => assumption); (case q9ke => assumption); (case q9k0 => first | assumption | omega); (case q9kl => first | assumption | omega); (case q9ks => first | decide | size_fits); (case q9kr => ktr_room); (case q9ku => ktr_units); k_whole); (intro z9hc z9nx z9h' z9tk' z9ta' z9F' z9N' z9hK' z9hd'; (try (k_dflt (have z9hx' := z9hK' (_, instObj 665 _) (by first | assumption | k_mem) (by first | assumption | k_ne))))); rotate_left; (intro z9hc z9g z9e z9nx z9h' z9tk' z9FG' z9R' z9U' z9hK'); rotate_left)
  k_with "call ref" => ((with_reducible show wpAny _ _ (PySem.call (Value.ref 530) _) _ _ _); k_here; k_dflt (refine' space_spec ?q9kB ?q9kF ?q9kX ?q9kN ?q9kT ?q9kk ?q9kx ?q9kd ?q9kb ?q9ke ?q9k0 ?q9kl ?q9kr ?q9ku ?_ ?_; (case q9kB => k_asm); (case q9kF => k_asm); (case q9kX => k_asm); (case q9kN => k_asm); (case q9kT => k_asm); (case q9kk => first | exact rfl | assumption); (case q9kx => first | k_mem | assumption); (case q9kd => first | k_mem | assumption); (case q9kb => assumption); (case q9ke => assumption); (case q9k0 => first | assumption | omega); (case q9kl => first | assumption | omega); (case q9kr => ktr_room); (case q9ku => ktr_units); k_whole); (intro z9hc z9nx z9h' z9tk' z9ta' z9F' z9N' z9hK' z9hd'; (try (k_dflt (have z9hx' := z9hK' (_, instObj 665 _) (by first | assumption | k_mem) (by first | assumption | k_ne))))); rotate_left; (intro z9hc z9g z9e z9nx z9h' z9tk' z9FG' z9R' z9U' z9hK'); rotate_left)
  k_with "compareOp In int bytes" => (k_here; k_dflt (refine' in_bytes ?q9h0 ?q9h1 ?_; (case q9h0 => first | assumption | omega); (case q9h1 => first | assumption | omega); k_whole))
  trivial
theorem letter_spec {k : Int} {t : Tok} (h0 : 0 ≤ k) (h1 : k < 256)
    (hdp : dp + 2 < recursionLimit) (hun : un + 16 < cLine)
    (ret : ∀ h' tk', Fr h₀ L h' m → News h₀ L h' news → Q (.bool (isL k)) { s with heap := h', toks := tk' }) :
    wpAny (model prog w) (ktrTop dp un gd cn cs L a ccd cl outer) (call (.ref 312) [.int k t]) Q E s := by
  refine wpAny_call ?_
  k_dflt (walk_at "my enter")
  k_steps
  all_goals (refine conv_bool ?_ (ret _ _ (by k_asm) (by k_asm)); (try simp only [decide_eq_true_eq, decide_eq_false_iff_not] at *); rw [Bool.eq_iff_iff]; simp only [isL, Bool.or_eq_true, Bool.and_eq_true, decide_eq_true_eq]; omega)
theorem setcode_spec {k : Int} {t : Tok} (h0 : 0 ≤ k) (h1 : k < 256)
    (hdp : dp + 2 < recursionLimit) (hun : un + 16 < cLine)
    (ret : ∀ h' tk', Fr h₀ L h' m → News h₀ L h' news → Q (.bool (isS k)) { s with heap := h', toks := tk' }) :
    wpAny (model prog w) (ktrTop dp un gd cn cs L a ccd cl outer) (call (.ref 466) [.int k t]) Q E s := by
  refine wpAny_call ?_
  k_dflt (walk_at "my enter")
  k_steps
  all_goals (refine conv_bool ?_ (ret _ _ (by k_asm) (by k_asm)); (try simp only [decide_eq_true_eq, decide_eq_false_iff_not] at *); (try rw [set_signs]); rw [Bool.eq_iff_iff]; simp only [isS, Bool.or_eq_true, Bool.and_eq_true, decide_eq_true_eq]; omega)
/-- what a sign test does -/
noncomputable def Fits (prog : Program) (w : World) (f : Addr) (p : Int → Bool) : Prop :=
  ∀ {mean : ExcName → Option Value} {mg mb : Str → Option Value} {dp un : Nat} {gd : Option (List Code)} {cn : Str} {cs : Scope} {a : Addr} {ccd : Value} {cl : List (Str × Addr)} {outer : List Env} {A₀ : Around} {base h₀ : Heap} {L : Addr} {m : Str → Option Value} {news : List (Addr × Obj)} {s : Shared}
    {Q E : Value → Shared → Prop}, Below A₀ base outer h₀ → Fr h₀ L s.heap m → (Mine.laid.heap_1 w.params).In h₀ → News h₀ L s.heap news → Top Mine.vw LL mean mg mb h₀ → cs.kind = .function → ∀ {k : Int} {t : Tok}, 0 ≤ k → k < 256 →
    dp + 2 < recursionLimit → un + 16 < cLine →
    (∀ h' tk', Fr h₀ L h' m → News h₀ L h' news → Q (.bool (p k)) { s with heap := h', toks := tk' }) →
    wpAny (model prog w) (ktrTop dp un gd cn cs L a ccd cl outer) (call (.ref f) [.int k t]) Q E s
omit B F X N T hk in
theorem fits_letter : Fits prog w 312 isL := letter_spec
omit B F X N T hk in
theorem fits_setcode : Fits prog w 466 isS := setcode_spec
/-- the loop of run -/
noncomputable def JRun (m : Str → Option Value) (news : List (Addr × Obj)) (d : Addr) (h1 h2 : Int) (t1 t2 tb : Tok) (b : Array UInt8) (n : Nat) (ks : List Int) (p : Int → Bool) (at0 : Int) (k : Nat) (m₁ : Str → Option Value) (nx : List (Addr × Obj)) : Prop :=
  m₁ = m ∧ ∃ at' ta', at0 ≤ at' ∧ at' ≤ ks.length ∧ (∀ i : Nat, at0 ≤ i → i < at' → p (ks.getD i 0) = true) ∧ Kept d news nx ∧ (d, wdict h1 h2 t1 t2 tb ta' b at' n) ∈ nx ∧ k = ks.length - at'.toNat
omit B F X N T hk in
theorem run_step {g hh : Heap} {L : Addr} {s : Shared} {tk : Nat} {Q : Flow → Shared → Prop} {m : Str → Option Value} {news nx : List (Addr × Obj)} {d : Addr} {h1 h2 : Int} {t1 t2 tb ta' : Tok} {b : Array UInt8} {n : Nat} {ks : List Int} {p : Int → Bool} {at0 at1 : Int}
    (F : Fr g L hh m) (N : News g L hh (upd d (wdict h1 h2 t1 t2 tb ta' b (at1 + 1) n) nx)) (hlo : at0 ≤ at1) (h0 : 0 ≤ at0) (hlt : at1 < ks.length) (hall : ∀ i : Nat, at0 ≤ i → i < at1 → p (ks.getD i 0) = true) (hp : p (ks.getD at1.toNat 0) = true)
    (hsub : Kept d news nx) :
    WhileStep2 g L s (JRun m news d h1 h2 t1 t2 tb b n ks p at0) Q (ks.length - at1.toNat) .next { s with heap := hh, toks := tk } := by
  refine ⟨_, _, _, _, ks.length - (at1 + 1).toNat, rfl, F, N, by omega, rfl, at1 + 1, ta', by omega, by omega, fun i h3 h4 => ?_, hsub.trans (Kept.upd _ _ _), upd_self, rfl⟩
  by_cases h5 : (i : Int) < at1
  · exact hall i h3 h5
  · have : i = at1.toNat := by omega
    rw [this]; exact hp
omit B F X N T hk in
theorem While_J {A : Around} {env : Env} {Q : Flow → Shared → Prop} {E : Value → Shared → Prop} {test : PySem.Expr} {body : List Stmt} {pos : Pos} (J : (Str → Option Value) → Nat → (Str → Option Value) → List (Addr × Obj) → Prop) {n₀ : Nat}
    (F : Fr h₀ L s.heap m) (N : News h₀ L s.heap news) (hJ : J m n₀ m news)
    (turn : ∀ n m₁ news₁ h₁ tk₁, Fr h₀ L h₁ m₁ → News h₀ L h₁ news₁ → J m n m₁ news₁ →
      wpAny (model prog w) A (isTrue test env (eval test env)) (fun b s₂ =>
        if b = true then wpAny (model prog w) A (execs body env) (WhileStep2 h₀ L s (J m) Q n) E s₂ else Q .next s₂) E { s with heap := h₁, toks := tk₁ })
    (hE : PassesOwn (model prog w) A env E) :
    wpAny (model prog w) A (exec (.While test body [] pos) env) Q E s := While_inv2 (J m) F N hJ turn hE
theorem run_spec {f : Addr} {p : Int → Bool} {x d : Addr} {h1 h2 : Int} {t1 t2 tb ta : Tok} {b : Array UInt8} {ks : List Int} {at_ : Int} {n : Nat}
    (hx : (x, instObj 665 d) ∈ news) (hd : (d, wdict h1 h2 t1 t2 tb ta b at_ n) ∈ news) (hb : KBw.bInts b = ks) (hlen : ks.length ≤ 10000) (h0 : 0 ≤ at_) (hl : at_ ≤ ks.length)
    (hkf : keepIn (Mine.laid.heap_1 w.params) (.ref f) = true) (hf : Fits prog w f p)
    (hdp : dp + 4 < recursionLimit) (hun : un + 32 < cLine)
    (ret : ∀ nx h' tk' ta' tv bv, Fr h₀ L h' m → News h₀ L h' nx → Kept d news nx → (d, wdict h1 h2 t1 t2 tb ta' b (at_ + (took p ks at_.toNat).length) n) ∈ nx →
      KBw.bInts bv = took p ks at_.toNat → Q (.bytes bv tv) { s with heap := h', toks := tk' }) :
    wpAny (model prog w) (ktrTop dp un gd cn cs L a ccd cl outer) (call (.ref 544) [.ref x, .ref f]) Q E s := by
  have hxd : x ≠ d := inst_apart N hx hd
  refine wpAny_call ?_
  k_dflt (walk_at "my enter")
  k_with "call ref" => (k_here; k_dflt (refine' hf ?kB ?kF ?kX ?kN ?kT ?kk ?k0 ?k1 ?kd ?ku ?_; (case kB => k_asm); (case kF => k_asm); (case kX => k_asm); (case kN => k_asm); (case kT => k_asm); (case kk => first | exact rfl | assumption); (case k0 => assumption); (case k1 => assumption); (case kd => ktr_room); (case ku => ktr_units); k_whole); intro h' tk' F' N')
  k_with "callWith ref" => (k_here; k_dflt (refine' callWith_K ?k1 ?k2 ?_; (case k1 => k_asm); (case k2 => assumption); k_whole))
  k_with "exec While" => (k_here; (rename Fr _ _ _ _ => hFw); (rename News _ _ _ _ => hNw); k_dflt (refine' While_J (fun mm => JRun mm news d h1 h2 t1 t2 tb b n ks p at_) hFw hNw ?hJ ?turn ?hE; (case hE => passes_own); (case hJ => exact ⟨rfl, at_, ta, Int.le_refl _, hl, fun i h3 h4 => absurd h3 (by omega), Kept.refl _ _, hd, rfl⟩); k_whole; clear hFw hNw; rintro kk mm nx hh1 tk1 F1 N1 ⟨rfl, at1, ta1, hlo, hhi, hall, hsub, hd1, rfl⟩; (have hx1 := hsub _ hx hxd)))
  k_steps
  · exact run_step (by k_asm) (by k_asm) hlo h0 (by assumption) hall (by assumption) hsub
  all_goals (
    rename (KBw.bInts (KBy.picked _ _ _) = _) => hK
    have e : took p ks at_.toNat = (ks.drop at_.toNat).take (at1.toNat - at_.toNat) := took_of (by omega) (by omega) (fun l a b => hall l (by omega) (by omega)) (fun hlt => by first | assumption | (exfalso; omega))
    have el := took_length (p := p) (ks := ks) (i := at_.toNat) (j := at1.toNat) (by omega) (by omega) e
    exact ret nx _ _ ta1 _ _ (by k_asm) (by k_asm) hsub (by rw [show at_ + ((took p ks at_.toNat).length : Int) = at1 by omega]; exact hd1) (by rw [hK, clip_in h0 hl, clip_in (by omega) hhi, e]))
end
end Mine
end
section
open PySem PySem.W PyProof.Rows
open Lean Elab Tactic Meta
set_option Elab.async false
set_option maxRecDepth 100000
set_option maxHeartbeats 8000000
namespace Mine
theorem All2.carried {g : Int → Str} {ks : List Int} {ys : List Value} (h : All2 (fun k v => ∃ t, v = Value.str (g k) t) ks ys) : CarriedAll ys (ks.map fun k => PyData.str (g k)) := by
  induction h with
  | nil => exact .nil
  | cons q _ ih =>
    obtain ⟨t, rfl⟩ := q
    exact .cons (.str _ _) ih
section
variable {prog : Program} {w : World} {mean : ExcName → Option Value} {mg mb : Str → Option Value}
    {dp un : Nat} {gd : Option (List Code)} {cn : Str} {cs : Scope} {a : Addr} {ccd : Value} {cl : List (Str × Addr)} {outer : List Env} {A₀ : Around} {base h₀ : Heap} {L : Addr} {m : Str → Option Value} {news : List (Addr × Obj)} {s : Shared}
    {Q E : Value → Shared → Prop}
    (B : Below A₀ base outer h₀) (F : Fr h₀ L s.heap m) (X : (Mine.laid.heap_1 w.params).In h₀) (N : News h₀ L s.heap news) (T : Top Mine.vw LL mean mg mb h₀) (hk : cs.kind = .function)
include B F X N T hk
theorem walkWords8 : True := by
  w_top off
  k_with_none
  k_with "my enter" => ((refine' code_def ?q9k1 ?q9k2 ?q9k3 ?q9k4 ?q9k5 ?q9kA ?q9kF ?q9kK ?q9k6 ?q9k7 ?q9k8 ?q9k9 ?q9kB ?_ ?q9c2 ?q9c3 ?q9c4 ?q9c5; (case q9kA => exact rfl); (case q9kF => exact rfl); (case q9kK => first | exact rfl | assumption); (case q9k1 => k_asm); (case q9k2 => k_asm); (case q9k3 => k_asm); (case q9k4 => k_asm); (case q9k5 => k_asm); (case q9k6 => k_is); (case q9k7 => k_is); (case q9k8 => ktr_room); (case q9k9 => first | exact binds_K (by k_in) rfl (by k_is) rfl rfl rfl | exact BindsTo.of_eq rfl); (case q9c5 => decide); (case q9kB => exact locs rfl); (case q9c2 => exact rfl); (case q9c3 => exact rfl); (case q9c4 => exact rfl); k_whole; intro z9g' z9L' z9h' z9FG' z9F' z9N' z9B' z9X' z9T'; (try dsimp only); (try k_fold)))
  k_with "setAttr ref" => (k_here; (with_reducible show wpAny _ _ (setAttr (Value.ref _) (PySem.Str.ofString "at") (Value.int _ _)) _ _ _); k_dflt (refine' setW_at ?q9F ?q9X ?q9N ?q9x ?q9d ?_; (case q9F => k_asm); (case q9X => k_asm); (case q9N => k_asm); (case q9x => k_mem); (case q9d => k_mem); k_whole); intro z9h' z9F' z9N')
  k_with "exec Raise some none" => (k_here; k_dflt (refine' RaiseX ?q9hh ?_; (case q9hh => exact rfl); k_whole))
  k_with "RaisableX" => (k_here; k_dflt (refine' ⟨_, _, _, _, rfl, News.get ?q9N ?q9m, xcls_of (K := Mine.laid.heap_1 _) (Frag.In.keeps ?q9X (Fr.keep ?q9F)) ?q9q, ?_⟩; (case q9F => k_asm); (case q9N => k_asm); (case q9m => k_mem); (case q9X => k_asm); (case q9q => kernel_rfl); k_whole))
  k_with "leaving ref" => (k_here; k_dflt (first
  | (refine' leave_own (ctx := Value.none) ?q9K ?q9F ?q9N ?q9ne ?_ ?q9hk; (case q9F => k_asm); (case q9N => k_asm); (case q9K => k_asm); (case q9ne => assumption); (case q9hk => exact rfl); k_whole; intro z9h' z9R' z9Th' z9U')
  | (refine' leave_thrown ?q9K ?q9F ?q9R ?q9U ?_; (case q9R => assumption); (case q9F => assumption); (case q9K => k_asm); (case q9U => assumption); k_whole; intro z9h' z9Th' z9U')
  | (refine' leave_onSN ?q9K ?q9F ?q9R ?q9U ?_; (case q9R => assumption); (case q9F => assumption); (case q9K => k_asm); (case q9U => assumption); k_whole; intro z9h' z9R' _ z9U')))
  k_with "call ref" => ((with_reducible show wpAny _ _ (PySem.call (Value.ref 502) _) _ _ _); k_here; k_dflt (refine wpAny_call ?_; (walk_at "my enter")))
  k_with "call ref" => ((with_reducible show wpAny _ _ (PySem.call (Value.ref 95) _) _ _ _); k_here; k_dflt (refine' mk_exc ?q9kB ?q9kF ?q9kX ?q9kN ?q9kT ?q9kk ?q9kc ?q9kc2 ?q9q1 ?q9q2 ?q9q3 ?q9q4 ?q9kr ?q9ku ?_; (case q9kB => k_asm); (case q9kF => k_asm); (case q9kX => k_asm); (case q9kN => k_asm); (case q9kT => k_asm); (case q9kk => first | exact rfl | assumption); (case q9kc => kernel_rfl); (case q9kc2 => kernel_rfl); (case q9q1 => k_is); (case q9q2 => k_is); (case q9q3 => k_is); (case q9q4 => k_is); (case q9kr => ktr_room); (case q9ku => ktr_units); k_whole); (intro z9e z9t z9dd z9k1 z9k2 z9t1 z9t2 z9h' z9tk' z9F' z9N' z9hne z9hlt))
  k_with "call ref" => ((with_reducible show wpAny _ _ (PySem.call (Value.ref 509) _) _ _ _); k_here; k_dflt (refine' peek_spec ?q9kB ?q9kF ?q9kX ?q9kN ?q9kT ?q9kk ?q9kx ?q9kd ?q9kb ?q9ke ?q9k0 ?q9kl ?q9kr ?q9ku ?_; (case q9kB => k_asm); (case q9kF => k_asm); (case q9kX => k_asm); (case q9kN => k_asm); (case q9kT => k_asm); (case q9kk => first | exact rfl | assumption); (case q9kx => first | k_mem | assumption); (case q9kd => first | k_mem | assumption); (case q9kb => assumption); (case q9ke => assumption); (case q9k0 => first | assumption | omega); (case q9kl => first | assumption | omega); (case q9kr => ktr_room); (case q9ku => ktr_units); k_whole); (intro z9h' z9tk' z9tv z9F' z9N'))
  k_with "call ref" => ((with_reducible show wpAny _ _ (PySem.call (Value.ref 516) _) _ _ _); k_here; k_dflt (refine' skip_spec ?q9kB ?q9kF ?q9kX ?q9kN ?q9kT ?q9kk ?q9kx ?q9kd ?q9kb ?q9ke ?q9k0 ?q9kl ?q9kr ?q9ku ?_ ?_; (case q9kB => k_asm); (case q9kF => k_asm); (case q9kX => k_asm); (case q9kN => k_asm); (case q9kT => k_asm); (case q9kk => first | exact rfl | assumption); (case q9kx => first | k_mem | assumption); (case q9kd => first | k_mem | assumption); (case q9kb => assumption); (case q9ke => assumption); (case q9k0 => first | assumption | omega); (case q9kl => first | assumption | omega); (case q9kr => ktr_room); (case q9ku => ktr_units); k_whole); (intro z9hc z9nx z9h' z9tk' z9ta' z9F' z9N' z9hK' z9hd'; (try (k_dflt (have z9hx' := z9hK' (_, instObj 665 _) (by first | assumption | k_mem) (by first | assumption | k_ne))))); rotate_left; (intro z9hc z9h' z9tk' z9F' z9N'); rotate_left)
  k_with "call ref" => ((with_reducible show wpAny _ _ (PySem.call (Value.ref 523) _) _ _ _); k_here; k_dflt (refine' need_spec ?q9kB ?q9kF ?q9kX ?q9kN ?q9kT ?q9kk ?q9kx ?q9kd ?q9kb ?q9ke ?q9k0 ?q9kl ?q9ks ?q9kr ?q9ku ?_ ?_; (case q9kB => k_asm); (case q9kF => k_asm); (case q9kX => k_asm); (case q9kN => k_asm); (case q9kT => k_asm); (case q9kk => first | exact rfl | assumption); (case q9kx => first | k_mem | assumption); (case q9kd => first | k_mem | assumption); (case q9kb => assumption); (case q9ke => assumption); (case q9k0 => first | assumption | omega); (case q9kl => first | assumption | omega); (case q9ks => first | decide | size_fits); (case q9kr => ktr_room); (case q9ku => ktr_units); k_whole); (intro z9hc z9nx z9h' z9tk' z9ta' z9F' z9N' z9hK' z9hd'; (try (k_dflt (have z9hx' := z9hK' (_, instObj 665 _) (by first | assumption | k_mem) (by first | assumption | k_ne))))); rotate_left; (intro z9hc z9g z9e z9nx z9h' z9tk' z9FG' z9R' z9U' z9hK'); rotate_left)
  k_with "call ref" => ((with_reducible show wpAny _ _ (PySem.call (Value.ref 530) _) _ _ _); k_here; k_dflt (refine' space_spec ?q9kB ?q9kF ?q9kX ?q9kN ?q9kT ?q9kk ?q9kx ?q9kd ?q9kb ?q9ke ?q9k0 ?q9kl ?q9kr ?q9ku ?_ ?_; (case q9kB => k_asm); (case q9kF => k_asm); (case q9kX => k_asm); (case q9kN => k_asm); (case q9kT => k_asm); (case q9kk => first | exact rfl | assumption); (case q9kx => first | k_mem | assumption); (case q9kd => first | k_mem | assumption); (case q9kb => assumption); (case q9ke => assumption); (case q9k0 => first | assumption | omega); (case q9kl => first | assumption | omega); (case q9kr => ktr_room); (case q9ku => ktr_units); k_whole); (intro z9hc z9nx z9h' z9tk' z9ta' z9F' z9N' z9hK' z9hd'; (try (k_dflt (have z9hx' := z9hK' (_, instObj 665 _) (by first | assumption | k_mem) (by first | assumption | k_ne))))); rotate_left; (intro z9hc z9g z9e z9nx z9h' z9tk' z9FG' z9R' z9U' z9hK'); rotate_left)
  k_with "compareOp In int bytes" => (k_here; k_dflt (refine' in_bytes ?q9h0 ?q9h1 ?_; (case q9h0 => first | assumption | omega); (case q9h1 => first | assumption | omega); k_whole))
  k_with "pyIter ref" => (k_here; k_dflt (refine' range_nothing rfl ?q9hr ?q9hsm ?q9hn ?q9F ?q9N ?_ ?_; (case q9hr => assumption); (case q9hsm => exact small_one (by omega) (by omega) (by omega) (by omega)); (case q9hn => exact rangeSize_nat _ _); (case q9F => k_asm); (case q9N => k_asm)); (intro z9k' z9t' z9h' z9tk' z9own' z9hlo' z9hhi' z9hoff' z9F' z9N'); rotate_left; (intro z9u' z9h' z9tk' z9F' z9N'); rotate_left)
  k_with "InvEndN" => exact ⟨_, _, _, _, _, rfl, (by k_asm), (by k_asm), fun p hp => List.mem_append_left _ hp, fun p hp => List.mem_append_right _ hp, rfl, rfl, fun z hz => if_neg hz⟩
  k_with "SrcB" => (k_here; k_dflt (refine' SrcB.intro (res := fun k v => ∃ t, v = Value.str ⟨#[k.toNat]⟩ t) rfl ?q9F ?q9N ?q9hb ?q9hlen ?_ ?_; (case q9F => k_asm); (case q9N => k_asm); (case q9hb => assumption); (case q9hlen => assumption)); (intro z9k' z9t' z9I' z9oI' z9C' z9oC' z9D' z9m2 z9ys' z9h' z9tk' z9E' z9hk' z9hC' z9hx' z9F' z9N' z9off' z9ne'; (obtain ⟨z9hr1', z9hr2'⟩ := (by assumption : ∀ j ∈ _, 0 ≤ j ∧ j < (128 : Int)) _ z9hk')); rotate_left; (intro z9g' z9ys' z9hy' z9D' z9h' z9tk' z9F' z9N' z9off'); rotate_left)
  k_with "EltEnd" => exact ⟨_, _, rfl, by k_asm, by k_asm, _, rfl⟩
  k_with "call builtin:str.join" => (k_here; k_dflt (refine' KT.join_1 (g := fun k => (⟨#[Int.toNat k]⟩ : Str)) (News.isList ?q9N ?q9m) (All2.carried ?q9y) (fun _ _ => rfl) ?q9sz ?_; (case q9N => k_asm); (case q9m => k_mem); (case q9y => assumption); (case q9sz => omega)); intro z9tj' z9kj' _)
  k_with "eval ListComp" => (k_here; k_dflt (refine ListComp_B (F₀ := by k_asm) (by with_unfolding_all rfl) (by decide) (by rfl) (by decide) (by rfl) ?_))
  trivial
theorem ascii_spec {bv : Array UInt8} {tv : Tok} {ks : List Int} (hb : KBw.bInts bv = ks) (hlen : ks.length ≤ 10000) (hlo : ∀ k ∈ ks, 0 ≤ k ∧ k < 128)
    (hdp : dp + 2 < recursionLimit) (hun : un + 24 < cLine)
    (ret : ∀ nx h' tk' tv', Fr h₀ L h' m → News h₀ L h' nx → (∀ q ∈ news, q ∈ nx) → Q (.str (strOf ks) tv') { s with heap := h', toks := tk' }) :
    wpAny (model prog w) (ktrTop dp un gd cn cs L a ccd cl outer) (call (.ref 231) [.bytes bv tv]) Q E s := by
  refine wpAny_call ?_
  k_dflt (walk_at "my enter")
  k_steps
  · exfalso
    rename (127 < _) => hgt
    rename Int => k'
    have hlt : k'.toNat < ks.length := by omega
    have := (hlo _ (List.getElem_mem hlt)).2
    rw [List.getD_eq_getElem?_getD, List.getElem?_eq_getElem hlt] at hgt
    dsimp only [Option.getD_some] at hgt
    omega
  · rw [join_sing]
    exact ret _ _ _ _ (by k_asm) (by k_asm) fun q hq => List.Mem.tail _ hq
end
section
variable {prog : Program} {w : World} {mean : ExcName → Option Value} {mg mb : Str → Option Value}
    {dp un : Nat} {gd : Option (List Code)} {cn : Str} {cs : Scope} {a : Addr} {ccd : Value} {cl : List (Str × Addr)} {outer : List Env} {A₀ : Around} {base h₀ : Heap} {L : Addr} {m : Str → Option Value} {news : List (Addr × Obj)} {s : Shared}
    {Q E : Value → Shared → Prop}
    (B : Below A₀ base outer h₀) (F : Fr h₀ L s.heap m) (X : (Mine.laid.heap_1 w.params).In h₀) (N : News h₀ L s.heap news) (T : Top Mine.vw LL mean mg mb h₀) (hk : cs.kind = .function)
include B F X N T hk
theorem walkWords9 : True := by
  w_top off
  k_with_none
  k_with "my enter" => ((refine' code_def ?q9k1 ?q9k2 ?q9k3 ?q9k4 ?q9k5 ?q9kA ?q9kF ?q9kK ?q9k6 ?q9k7 ?q9k8 ?q9k9 ?q9kB ?_ ?q9c2 ?q9c3 ?q9c4 ?q9c5; (case q9kA => exact rfl); (case q9kF => exact rfl); (case q9kK => first | exact rfl | assumption); (case q9k1 => k_asm); (case q9k2 => k_asm); (case q9k3 => k_asm); (case q9k4 => k_asm); (case q9k5 => k_asm); (case q9k6 => k_is); (case q9k7 => k_is); (case q9k8 => ktr_room); (case q9k9 => first | exact binds_K (by k_in) rfl (by k_is) rfl rfl rfl | exact BindsTo.of_eq rfl); (case q9c5 => decide); (case q9kB => exact locs rfl); (case q9c2 => exact rfl); (case q9c3 => exact rfl); (case q9c4 => exact rfl); k_whole; intro z9g' z9L' z9h' z9FG' z9F' z9N' z9B' z9X' z9T'; (try dsimp only); (try k_fold)))
  k_with "setAttr ref" => (k_here; (with_reducible show wpAny _ _ (setAttr (Value.ref _) (PySem.Str.ofString "at") (Value.int _ _)) _ _ _); k_dflt (refine' setW_at ?q9F ?q9X ?q9N ?q9x ?q9d ?_; (case q9F => k_asm); (case q9X => k_asm); (case q9N => k_asm); (case q9x => k_mem); (case q9d => k_mem); k_whole); intro z9h' z9F' z9N')
  k_with "exec Raise some none" => (k_here; k_dflt (refine' RaiseX ?q9hh ?_; (case q9hh => exact rfl); k_whole))
  k_with "RaisableX" => (k_here; k_dflt (refine' ⟨_, _, _, _, rfl, News.get ?q9N ?q9m, xcls_of (K := Mine.laid.heap_1 _) (Frag.In.keeps ?q9X (Fr.keep ?q9F)) ?q9q, ?_⟩; (case q9F => k_asm); (case q9N => k_asm); (case q9m => k_mem); (case q9X => k_asm); (case q9q => kernel_rfl); k_whole))
  k_with "leaving ref" => (k_here; k_dflt (first
  | (refine' leave_own (ctx := Value.none) ?q9K ?q9F ?q9N ?q9ne ?_ ?q9hk; (case q9F => k_asm); (case q9N => k_asm); (case q9K => k_asm); (case q9ne => assumption); (case q9hk => exact rfl); k_whole; intro z9h' z9R' z9Th' z9U')
  | (refine' leave_thrown ?q9K ?q9F ?q9R ?q9U ?_; (case q9R => assumption); (case q9F => assumption); (case q9K => k_asm); (case q9U => assumption); k_whole; intro z9h' z9Th' z9U')
  | (refine' leave_onSN ?q9K ?q9F ?q9R ?q9U ?_; (case q9R => assumption); (case q9F => assumption); (case q9K => k_asm); (case q9U => assumption); k_whole; intro z9h' z9R' _ z9U')))
  k_with "call ref" => ((with_reducible show wpAny _ _ (PySem.call (Value.ref 502) _) _ _ _); k_here; k_dflt (refine wpAny_call ?_; (walk_at "my enter")))
  k_with "call ref" => ((with_reducible show wpAny _ _ (PySem.call (Value.ref 95) _) _ _ _); k_here; k_dflt (refine' mk_exc ?q9kB ?q9kF ?q9kX ?q9kN ?q9kT ?q9kk ?q9kc ?q9kc2 ?q9q1 ?q9q2 ?q9q3 ?q9q4 ?q9kr ?q9ku ?_; (case q9kB => k_asm); (case q9kF => k_asm); (case q9kX => k_asm); (case q9kN => k_asm); (case q9kT => k_asm); (case q9kk => first | exact rfl | assumption); (case q9kc => kernel_rfl); (case q9kc2 => kernel_rfl); (case q9q1 => k_is); (case q9q2 => k_is); (case q9q3 => k_is); (case q9q4 => k_is); (case q9kr => ktr_room); (case q9ku => ktr_units); k_whole); (intro z9e z9t z9dd z9k1 z9k2 z9t1 z9t2 z9h' z9tk' z9F' z9N' z9hne z9hlt))
  k_with "call ref" => ((with_reducible show wpAny _ _ (PySem.call (Value.ref 509) _) _ _ _); k_here; k_dflt (refine' peek_spec ?q9kB ?q9kF ?q9kX ?q9kN ?q9kT ?q9kk ?q9kx ?q9kd ?q9kb ?q9ke ?q9k0 ?q9kl ?q9kr ?q9ku ?_; (case q9kB => k_asm); (case q9kF => k_asm); (case q9kX => k_asm); (case q9kN => k_asm); (case q9kT => k_asm); (case q9kk => first | exact rfl | assumption); (case q9kx => first | k_mem | assumption); (case q9kd => first | k_mem | assumption); (case q9kb => assumption); (case q9ke => assumption); (case q9k0 => first | assumption | omega); (case q9kl => first | assumption | omega); (case q9kr => ktr_room); (case q9ku => ktr_units); k_whole); (intro z9h' z9tk' z9tv z9F' z9N'))
  k_with "call ref" => ((with_reducible show wpAny _ _ (PySem.call (Value.ref 516) _) _ _ _); k_here; k_dflt (refine' skip_spec ?q9kB ?q9kF ?q9kX ?q9kN ?q9kT ?q9kk ?q9kx ?q9kd ?q9kb ?q9ke ?q9k0 ?q9kl ?q9kr ?q9ku ?_ ?_; (case q9kB => k_asm); (case q9kF => k_asm); (case q9kX => k_asm); (case q9kN => k_asm); (case q9kT => k_asm); (case q9kk => first | exact rfl | assumption); (case q9kx => first | k_mem | assumption); (case q9kd => first | k_mem | assumption); (case q9kb => assumption); (case q9ke => assumption); (case q9k0 => first | assumption | omega); (case q9kl => first | assumption | omega); (case q9kr => ktr_room); (case q9ku => ktr_units); k_whole); (intro z9hc z9nx z9h' z9tk' z9ta' z9F' z9N' z9hK' z9hd'; (try (k_dflt (have z9hx' := z9hK' (_, instObj 665 _) (by first | assumption | k_mem) (by first | assumption | k_ne))))); rotate_left; (intro z9hc z9h' z9tk' z9F' z9N'); rotate_left)
  k_with "call ref" => ((with_reducible show wpAny _ _ (PySem.call (Value.ref 523) _) _ _ _); k_here; k_dflt (refine' need_spec ?q9kB ?q9kF ?q9kX ?q9kN ?q9kT ?q9kk ?q9kx ?q9kd ?q9kb ?q9ke ?q9k0 ?q9kl ?q9ks ?q9kr ?q9ku ?_ ?_; (case q9kB => k_asm); (case q9kF => k_asm); (case q9kX => k_asm); (case q9kN => k_asm); (case q9kT => k_asm); (case q9kk => first | exact rfl | assumption); (case q9kx => first | k_mem | assumption); (case q9kd => first | k_mem | assumption); (case q9kb => assumption); (case q9ke => assumption); (case q9k0 => first | assumption | omega); (case q9kl => first | assumption | omega); (case q9ks => first | decide | size_fits); (case q9kr => ktr_room); (case q9ku => ktr_units); k_whole); (intro z9hc z9nx z9h' z9tk' z9ta' z9F' z9N' z9hK' z9hd'; (try (k_dflt (have z9hx' := z9hK' (_, instObj 665 _) (by first | assumption | k_mem) (by first | assumption | k_ne))))); rotate_left; (intro z9hc z9g z9e z9nx z9h' z9tk' z9FG' z9R' z9U' z9hK'); rotate_left)
  k_with "call ref" => ((with_reducible show wpAny _ _ (PySem.call (Value.ref 530) _) _ _ _); k_here; k_dflt (refine' space_spec ?q9kB ?q9kF ?q9kX ?q9kN ?q9kT ?q9kk ?q9kx ?q9kd ?q9kb ?q9ke ?q9k0 ?q9kl ?q9kr ?q9ku ?_ ?_; (case q9kB => k_asm); (case q9kF => k_asm); (case q9kX => k_asm); (case q9kN => k_asm); (case q9kT => k_asm); (case q9kk => first | exact rfl | assumption); (case q9kx => first | k_mem | assumption); (case q9kd => first | k_mem | assumption); (case q9kb => assumption); (case q9ke => assumption); (case q9k0 => first | assumption | omega); (case q9kl => first | assumption | omega); (case q9kr => ktr_room); (case q9ku => ktr_units); k_whole); (intro z9hc z9nx z9h' z9tk' z9ta' z9F' z9N' z9hK' z9hd'; (try (k_dflt (have z9hx' := z9hK' (_, instObj 665 _) (by first | assumption | k_mem) (by first | assumption | k_ne))))); rotate_left; (intro z9hc z9g z9e z9nx z9h' z9tk' z9FG' z9R' z9U' z9hK'); rotate_left)
  k_with "compareOp In int bytes" => (k_here; k_dflt (refine' in_bytes ?q9h0 ?q9h1 ?_; (case q9h0 => first | assumption | omega); (case q9h1 => first | assumption | omega); k_whole))
  k_with "pyIter ref" => (k_here; k_dflt (refine' range_nothing rfl ?q9hr ?q9hsm ?q9hn ?q9F ?q9N ?_ ?_; (case q9hr => assumption); (case q9hsm => exact small_one (by omega) (by omega) (by omega) (by omega)); (case q9hn => exact rangeSize_nat _ _); (case q9F => k_asm); (case q9N => k_asm)); (intro z9k' z9t' z9h' z9tk' z9own' z9hlo' z9hhi' z9hoff' z9F' z9N'); rotate_left; (intro z9u' z9h' z9tk' z9F' z9N'); rotate_left)
  k_with "InvEndN" => exact ⟨_, _, _, _, _, rfl, (by k_asm), (by k_asm), fun p hp => List.mem_append_left _ hp, fun p hp => List.mem_append_right _ hp, rfl, rfl, fun z hz => if_neg hz⟩
  k_with "SrcS" => (k_here; k_dflt (refine' SrcS.intro (res := fun k v => ∃ t, v = Value.str ⟨#[(upL k).toNat]⟩ t) rfl ?q9F ?q9N ?q9hb ?q9hlen ?_ ?_; (case q9F => k_asm); (case q9N => k_asm); (case q9hb => exact fun k hk => ((by assumption : ∀ j ∈ _, 0 ≤ j ∧ j < (128 : Int)) k hk).1); (case q9hlen => assumption)); (intro z9k' z9t' z9I' z9oI' z9C' z9oC' z9D' z9m2 z9ys' z9h' z9tk' z9E' z9hk' z9hC' z9hx' z9F' z9N' z9off' z9ne'; (obtain ⟨z9hr1', z9hr2'⟩ := (by assumption : ∀ j ∈ _, 0 ≤ j ∧ j < (128 : Int)) _ z9hk')); rotate_left; (intro z9g' z9ys' z9hy' z9D' z9h' z9tk' z9F' z9N' z9off'); rotate_left)
  k_with "call builtin:str.join" => (k_here; k_dflt (refine' KT.join_1 (g := fun k => (⟨#[Int.toNat (upL k)]⟩ : Str)) (News.isList ?q9N ?q9m) (All2.carried ?q9y) (fun _ _ => rfl) ?q9sz ?_; (case q9N => k_asm); (case q9m => k_mem); (case q9y => assumption); (case q9sz => omega)); intro z9tj' z9kj' _)
  k_with "eval ListComp" => (k_here; k_dflt (refine ListComp_S (F₀ := by k_asm) (by with_unfolding_all rfl) (by decide) (by rfl) (by decide) (by rfl) ?_))
  trivial
theorem upper_spec {tv : Tok} {ks : List Int} (hlen : ks.length ≤ 10000) (hlo : ∀ k ∈ ks, 0 ≤ k ∧ k < 128)
    (hdp : dp + 2 < recursionLimit) (hun : un + 24 < cLine)
    (ret : ∀ nx h' tk' tv', Fr h₀ L h' m → News h₀ L h' nx → (∀ q ∈ news, q ∈ nx) → Q (.str (strOf (ks.map upL)) tv') { s with heap := h', toks := tk' }) :
    wpAny (model prog w) (ktrTop dp un gd cn cs L a ccd cl outer) (call (.ref 226) [.str (strOf ks) tv]) Q E s := by
  refine wpAny_call ?_
  k_dflt (walk_at "my enter")
  k_steps
  · rename Int => k'
    rename (_ < (Str.ofString "a").cps.toList) => hlt; rw [lt_a] at hlt
    exact ⟨_, _, rfl, by k_asm, by k_asm, _, by rw [upL_not (k := k') (by assumption) (.inl (by assumption))]⟩
  · rename Int => k'
    rename (¬ _ < (Str.ofString "a").cps.toList) => hlt; rw [lt_a] at hlt
    rename ((Str.ofString "z").cps.toList < _) => hlz; rw [z_lt] at hlz
    exact ⟨_, _, rfl, by k_asm, by k_asm, _, by rw [upL_not (k := k') (by assumption) (.inr (by assumption))]⟩
  · rename Int => k'
    rename (¬ _ < (Str.ofString "a").cps.toList) => hlt; rw [lt_a] at hlt
    rename (¬ (Str.ofString "z").cps.toList < _) => hlz; rw [z_lt] at hlz
    k_steps
    exact ⟨_, _, rfl, by k_asm, by k_asm, _, by rw [upL_yes (k := k') (by assumption) (by assumption)]⟩
  · rw [join_sing, ← strOf_map]
    exact ret _ _ _ _ (by k_asm) (by k_asm) fun q hq => List.Mem.tail _ hq
end
end Mine
end
section
open PySem PySem.W PyProof.Rows
open Lean Elab Tactic Meta
set_option Elab.async false
set_option maxRecDepth 100000
set_option maxHeartbeats 8000000
namespace Mine
theorem took_fits {p : Int → Bool} {ks : List Int} {i : Nat} (h : ks.length ≤ 10000) : (took p ks i).length ≤ 10000 :=
  Nat.le_trans (by have := (List.takeWhile_sublist (p := p) (l := ks.drop i)).length_le; rw [List.length_drop] at this; unfold took; omega) h
theorem took_lo {p : Int → Bool} {ks : List Int} {i : Nat} (h : ∀ k ∈ ks, 0 ≤ k ∧ k < (128 : Int)) : ∀ k ∈ took p ks i, 0 ≤ k ∧ k < (128 : Int) := fun k hk => h k (took_mem k hk)
section
variable {prog : Program} {w : World} {mean : ExcName → Option Value} {mg mb : Str → Option Value}
    {dp un : Nat} {gd : Option (List Code)} {cn : Str} {cs : Scope} {a : Addr} {ccd : Value} {cl : List (Str × Addr)} {outer : List Env} {A₀ : Around} {base h₀ : Heap} {L : Addr} {m : Str → Option Value} {news : List (Addr × Obj)} {s : Shared}
    {Q E : Value → Shared → Prop}
    (B : Below A₀ base outer h₀) (F : Fr h₀ L s.heap m) (X : (Mine.laid.heap_1 w.params).In h₀) (N : News h₀ L s.heap news) (T : Top Mine.vw LL mean mg mb h₀) (hk : cs.kind = .function)
include B F X N T hk
variable {x d : Addr} {h1 h2 : Int} {t1 t2 tb ta : Tok} {b : Array UInt8} {ks : List Int} {at_ : Int} {n : Nat}
    (hx : (x, instObj 665 d) ∈ news) (hd : (d, wdict h1 h2 t1 t2 tb ta b at_ n) ∈ news) (hb : KBw.bInts b = ks) (hlen : ks.length ≤ 10000) (h0 : 0 ≤ at_) (hl : at_ ≤ ks.length)
include hx hd hb hlen h0 hl
variable (hlo : ∀ k ∈ ks, 0 ≤ k ∧ k < (128 : Int))
include hlo
theorem walkWords10 : True := by
  w_top off
  k_with_none
  k_with "my enter" => ((refine' code_def ?q9k1 ?q9k2 ?q9k3 ?q9k4 ?q9k5 ?q9kA ?q9kF ?q9kK ?q9k6 ?q9k7 ?q9k8 ?q9k9 ?q9kB ?_ ?q9c2 ?q9c3 ?q9c4 ?q9c5; (case q9kA => exact rfl); (case q9kF => exact rfl); (case q9kK => first | exact rfl | assumption); (case q9k1 => k_asm); (case q9k2 => k_asm); (case q9k3 => k_asm); (case q9k4 => k_asm); (case q9k5 => k_asm); (case q9k6 => k_is); (case q9k7 => k_is); (case q9k8 => ktr_room); (case q9k9 => first | exact binds_K (by k_in) rfl (by k_is) rfl rfl rfl | exact BindsTo.of_eq rfl); (case q9c5 => decide); (case q9kB => exact locs rfl); (case q9c2 => exact rfl); (case q9c3 => exact rfl); (case q9c4 => exact rfl); k_whole; intro z9g' z9L' z9h' z9FG' z9F' z9N' z9B' z9X' z9T'; (try dsimp only); (try k_fold)))
  k_with "setAttr ref" => (k_here; (with_reducible show wpAny _ _ (setAttr (Value.ref _) (PySem.Str.ofString "at") (Value.int _ _)) _ _ _); k_dflt (refine' setW_at ?q9F ?q9X ?q9N ?q9x ?q9d ?_; (case q9F => k_asm); (case q9X => k_asm); (case q9N => k_asm); (case q9x => k_mem); (case q9d => k_mem); k_whole); intro z9h' z9F' z9N')
  k_with "exec Raise some none" => (k_here; k_dflt (refine' RaiseX ?q9hh ?_; (case q9hh => exact rfl); k_whole))
  k_with "RaisableX" => (k_here; k_dflt (refine' ⟨_, _, _, _, rfl, News.get ?q9N ?q9m, xcls_of (K := Mine.laid.heap_1 _) (Frag.In.keeps ?q9X (Fr.keep ?q9F)) ?q9q, ?_⟩; (case q9F => k_asm); (case q9N => k_asm); (case q9m => k_mem); (case q9X => k_asm); (case q9q => kernel_rfl); k_whole))
  k_with "leaving ref" => (k_here; k_dflt (first
  | (refine' leave_own (ctx := Value.none) ?q9K ?q9F ?q9N ?q9ne ?_ ?q9hk; (case q9F => k_asm); (case q9N => k_asm); (case q9K => k_asm); (case q9ne => assumption); (case q9hk => exact rfl); k_whole; intro z9h' z9R' z9Th' z9U')
  | (refine' leave_thrown ?q9K ?q9F ?q9R ?q9U ?_; (case q9R => assumption); (case q9F => assumption); (case q9K => k_asm); (case q9U => assumption); k_whole; intro z9h' z9Th' z9U')
  | (refine' leave_onSN ?q9K ?q9F ?q9R ?q9U ?_; (case q9R => assumption); (case q9F => assumption); (case q9K => k_asm); (case q9U => assumption); k_whole; intro z9h' z9R' _ z9U')))
  k_with "call ref" => ((with_reducible show wpAny _ _ (PySem.call (Value.ref 502) _) _ _ _); k_here; k_dflt (refine wpAny_call ?_; (walk_at "my enter")))
  k_with "call ref" => ((with_reducible show wpAny _ _ (PySem.call (Value.ref 95) _) _ _ _); k_here; k_dflt (refine' mk_exc ?q9kB ?q9kF ?q9kX ?q9kN ?q9kT ?q9kk ?q9kc ?q9kc2 ?q9q1 ?q9q2 ?q9q3 ?q9q4 ?q9kr ?q9ku ?_; (case q9kB => k_asm); (case q9kF => k_asm); (case q9kX => k_asm); (case q9kN => k_asm); (case q9kT => k_asm); (case q9kk => first | exact rfl | assumption); (case q9kc => kernel_rfl); (case q9kc2 => kernel_rfl); (case q9q1 => k_is); (case q9q2 => k_is); (case q9q3 => k_is); (case q9q4 => k_is); (case q9kr => ktr_room); (case q9ku => ktr_units); k_whole); (intro z9e z9t z9dd z9k1 z9k2 z9t1 z9t2 z9h' z9tk' z9F' z9N' z9hne z9hlt))
  k_with "call ref" => ((with_reducible show wpAny _ _ (PySem.call (Value.ref 119) _) _ _ _); k_here; k_dflt (refine' mk_exc ?q9kB ?q9kF ?q9kX ?q9kN ?q9kT ?q9kk ?q9kc ?q9kc2 ?q9q1 ?q9q2 ?q9q3 ?q9q4 ?q9kr ?q9ku ?_; (case q9kB => k_asm); (case q9kF => k_asm); (case q9kX => k_asm); (case q9kN => k_asm); (case q9kT => k_asm); (case q9kk => first | exact rfl | assumption); (case q9kc => kernel_rfl); (case q9kc2 => kernel_rfl); (case q9q1 => k_is); (case q9q2 => k_is); (case q9q3 => k_is); (case q9q4 => k_is); (case q9kr => ktr_room); (case q9ku => ktr_units); k_whole); (intro z9e z9t z9dd z9k1 z9k2 z9t1 z9t2 z9h' z9tk' z9F' z9N' z9hne z9hlt))
  k_with "call ref" => ((with_reducible show wpAny _ _ (PySem.call (Value.ref 509) _) _ _ _); k_here; k_dflt (refine' peek_spec ?q9kB ?q9kF ?q9kX ?q9kN ?q9kT ?q9kk ?q9kx ?q9kd ?q9kb ?q9ke ?q9k0 ?q9kl ?q9kr ?q9ku ?_; (case q9kB => k_asm); (case q9kF => k_asm); (case q9kX => k_asm); (case q9kN => k_asm); (case q9kT => k_asm); (case q9kk => first | exact rfl | assumption); (case q9kx => first | k_mem | assumption); (case q9kd => first | k_mem | assumption); (case q9kb => assumption); (case q9ke => assumption); (case q9k0 => first | assumption | omega); (case q9kl => first | assumption | omega); (case q9kr => ktr_room); (case q9ku => ktr_units); k_whole); (intro z9h' z9tk' z9tv z9F' z9N'))
  k_with "call ref" => ((with_reducible show wpAny _ _ (PySem.call (Value.ref 516) _) _ _ _); k_here; k_dflt (refine' skip_spec ?q9kB ?q9kF ?q9kX ?q9kN ?q9kT ?q9kk ?q9kx ?q9kd ?q9kb ?q9ke ?q9k0 ?q9kl ?q9kr ?q9ku ?_ ?_; (case q9kB => k_asm); (case q9kF => k_asm); (case q9kX => k_asm); (case q9kN => k_asm); (case q9kT => k_asm); (case q9kk => first | exact rfl | assumption); (case q9kx => first | k_mem | assumption); (case q9kd => first | k_mem | assumption); (case q9kb => assumption); (case q9ke => assumption); (case q9k0 => first | assumption | omega); (case q9kl => first | assumption | omega); (case q9kr => ktr_room); (case q9ku => ktr_units); k_whole); (intro z9hc z9nx z9h' z9tk' z9ta' z9F' z9N' z9hK' z9hd'; (try (k_dflt (have z9hx' := z9hK' (_, instObj 665 _) (by first | assumption | k_mem) (by first | assumption | k_ne))))); rotate_left; (intro z9hc z9h' z9tk' z9F' z9N'); rotate_left)
  k_with "call ref" => ((with_reducible show wpAny _ _ (PySem.call (Value.ref 523) _) _ _ _); k_here; k_dflt (refine' need_spec ?q9kB ?q9kF ?q9kX ?q9kN ?q9kT ?q9kk ?q9kx ?q9kd ?q9kb ?q9ke ?q9k0 ?q9kl ?q9ks ?q9kr ?q9ku ?_ ?_; (case q9kB => k_asm); (case q9kF => k_asm); (case q9kX => k_asm); (case q9kN => k_asm); (case q9kT => k_asm); (case q9kk => first | exact rfl | assumption); (case q9kx => first | k_mem | assumption); (case q9kd => first | k_mem | assumption); (case q9kb => assumption); (case q9ke => assumption); (case q9k0 => first | assumption | omega); (case q9kl => first | assumption | omega); (case q9ks => first | decide | size_fits); (case q9kr => ktr_room); (case q9ku => ktr_units); k_whole); (intro z9hc z9nx z9h' z9tk' z9ta' z9F' z9N' z9hK' z9hd'; (try (k_dflt (have z9hx' := z9hK' (_, instObj 665 _) (by first | assumption | k_mem) (by first | assumption | k_ne))))); rotate_left; (intro z9hc z9g z9e z9nx z9h' z9tk' z9FG' z9R' z9U' z9hK'); rotate_left)
  k_with "call ref" => ((with_reducible show wpAny _ _ (PySem.call (Value.ref 530) _) _ _ _); k_here; k_dflt (refine' space_spec ?q9kB ?q9kF ?q9kX ?q9kN ?q9kT ?q9kk ?q9kx ?q9kd ?q9kb ?q9ke ?q9k0 ?q9kl ?q9kr ?q9ku ?_ ?_; (case q9kB => k_asm); (case q9kF => k_asm); (case q9kX => k_asm); (case q9kN => k_asm); (case q9kT => k_asm); (case q9kk => first | exact rfl | assumption); (case q9kx => first | k_mem | assumption); (case q9kd => first | k_mem | assumption); (case q9kb => assumption); (case q9ke => assumption); (case q9k0 => first | assumption | omega); (case q9kl => first | assumption | omega); (case q9kr => ktr_room); (case q9ku => ktr_units); k_whole); (intro z9hc z9nx z9h' z9tk' z9ta' z9F' z9N' z9hK' z9hd'; (try (k_dflt (have z9hx' := z9hK' (_, instObj 665 _) (by first | assumption | k_mem) (by first | assumption | k_ne))))); rotate_left; (intro z9hc z9g z9e z9nx z9h' z9tk' z9FG' z9R' z9U' z9hK'); rotate_left)
  k_with "compareOp In int bytes" => (k_here; k_dflt (refine' in_bytes ?q9h0 ?q9h1 ?_; (case q9h0 => first | assumption | omega); (case q9h1 => first | assumption | omega); k_whole))
  k_with "call ref" => ((with_reducible show wpAny _ _ (PySem.call (Value.ref 544) [_, Value.ref 312]) _ _ _); k_here; k_dflt (refine' run_spec (f := 312) (p := isL) ?q9kB ?q9kF ?q9kX ?q9kN ?q9kT ?q9kk ?q9kx ?q9kd ?q9kb ?q9ke ?q9k0 ?q9kl ?q9kkf ?q9kfit ?q9kr ?q9ku ?_; (case q9kB => k_asm); (case q9kF => k_asm); (case q9kX => k_asm); (case q9kN => k_asm); (case q9kT => k_asm); (case q9kk => first | exact rfl | assumption); (case q9kx => first | k_mem | assumption); (case q9kd => first | k_mem | assumption); (case q9kb => assumption); (case q9ke => assumption); (case q9k0 => first | assumption | omega); (case q9kl => first | assumption | omega); (case q9kkf => k_is); (case q9kfit => exact fits_letter); (case q9kr => ktr_room); (case q9ku => ktr_units); k_whole); (intro z9nx z9h' z9tk' z9ta' z9tv z9bv z9F' z9N' z9hK' z9hd' z9hbv; (try (k_dflt (have z9hx' := z9hK' (_, instObj 665 _) (by first | assumption | k_mem) (by first | assumption | k_ne))))))
  k_with "call ref" => ((with_reducible show wpAny _ _ (PySem.call (Value.ref 544) [_, Value.ref 466]) _ _ _); k_here; k_dflt (refine' run_spec (f := 466) (p := isS) ?q9kB ?q9kF ?q9kX ?q9kN ?q9kT ?q9kk ?q9kx ?q9kd ?q9kb ?q9ke ?q9k0 ?q9kl ?q9kkf ?q9kfit ?q9kr ?q9ku ?_; (case q9kB => k_asm); (case q9kF => k_asm); (case q9kX => k_asm); (case q9kN => k_asm); (case q9kT => k_asm); (case q9kk => first | exact rfl | assumption); (case q9kx => first | k_mem | assumption); (case q9kd => first | k_mem | assumption); (case q9kb => assumption); (case q9ke => assumption); (case q9k0 => first | assumption | omega); (case q9kl => first | assumption | omega); (case q9kkf => k_is); (case q9kfit => exact fits_setcode); (case q9kr => ktr_room); (case q9ku => ktr_units); k_whole); (intro z9nx z9h' z9tk' z9ta' z9tv z9bv z9F' z9N' z9hK' z9hd' z9hbv; (try (k_dflt (have z9hx' := z9hK' (_, instObj 665 _) (by first | assumption | k_mem) (by first | assumption | k_ne))))))
  k_with "call ref" => ((with_reducible show wpAny _ _ (PySem.call (Value.ref 231) _) _ _ _); k_here; k_dflt (refine' ascii_spec ?q9kB ?q9kF ?q9kX ?q9kN ?q9kT ?q9kk ?q9kb ?q9klen ?q9klo ?q9kr ?q9ku ?_; (case q9kB => k_asm); (case q9kF => k_asm); (case q9kX => k_asm); (case q9kN => k_asm); (case q9kT => k_asm); (case q9kk => first | exact rfl | assumption); (case q9kb => assumption); (case q9klen => exact took_fits (by assumption)); (case q9klo => exact took_lo (by assumption)); (case q9kr => ktr_room); (case q9ku => ktr_units); k_whole); (intro z9nx z9h' z9tk' z9tv' z9F' z9N' z9hs'))
  k_with "call ref" => ((with_reducible show wpAny _ _ (PySem.call (Value.ref 226) _) _ _ _); k_here; k_dflt (refine' upper_spec ?q9kB ?q9kF ?q9kX ?q9kN ?q9kT ?q9kk ?q9klen ?q9klo ?q9kr ?q9ku ?_; (case q9kB => k_asm); (case q9kF => k_asm); (case q9kX => k_asm); (case q9kN => k_asm); (case q9kT => k_asm); (case q9kk => first | exact rfl | assumption); (case q9klen => exact took_fits (by assumption)); (case q9klo => exact took_lo (by assumption)); (case q9kr => ktr_room); (case q9ku => ktr_units); k_whole); (intro z9nx z9h' z9tk' z9tv' z9F' z9N' z9hs'))
  k_with "call ref" => ((with_reducible show wpAny _ _ (PySem.call (Value.ref 551) _) _ _ _); k_here; k_dflt (refine wpAny_call ?_; (walk_at "my enter")))
  trivial
theorem settext_spec (hS : took isS ks at_.toNat ≠ [])
    (hdp : dp + 8 < recursionLimit) (hun : un + 48 < cLine)
    (ret : ∀ nx h' tk' ta' tv, Fr h₀ L h' m → News h₀ L h' nx → Kept d news nx → (d, wdict h1 h2 t1 t2 tb ta' b (at_ + (took isS ks at_.toNat).length) n) ∈ nx →
      Q (.str (strOf (took isS ks at_.toNat)) tv) { s with heap := h', toks := tk' }) :
    wpAny (model prog w) (ktrTop dp un gd cn cs L a ccd cl outer) (call (.ref 579) [.ref x]) Q E s := by
  have hxd : x ≠ d := inst_apart N hx hd
  have hw := took_fits (p := isS) (i := at_.toNat) hlen
  have hp := List.length_pos_iff.mpr hS
  refine wpAny_call ?_
  k_dflt (walk_at "my enter")
  k_steps
  · exfalso; omega
  · exact ret _ _ _ _ _ (by k_asm) (by k_asm) (by intro q h1 h2; unfold Kept at *; solve_by_elim) (by solve_by_elim)
theorem keyword_spec
    (hdp : dp + 8 < recursionLimit) (hun : un + 48 < cLine)
    (ret : took isL ks at_.toNat ≠ [] → ∀ nx h' tk' ta' tv, Fr h₀ L h' m → News h₀ L h' nx → Kept d news nx → (d, wdict h1 h2 t1 t2 tb ta' b (at_ + (took isL ks at_.toNat).length) n) ∈ nx →
      Q (.str (strOf ((took isL ks at_.toNat).map upL)) tv) { s with heap := h', toks := tk' })
    (exc : took isL ks at_.toNat = [] → ∀ g e nx h' tk', Fr h₀ L g m → RaisedSN base g (envX cn cs L a ccd cl :: outer) e (.ref 119) nx h' → g.UpToSlots h' → Kept d news nx → E (.ref e) { s with heap := h', toks := tk' }) :
    wpAny (model prog w) (ktrTop dp un gd cn cs L a ccd cl outer) (call (.ref 319) [.ref x]) Q E s := by
  have hxd : x ≠ d := inst_apart N hx hd
  refine wpAny_call ?_
  k_dflt (walk_at "my enter")
  k_steps
  · rename (KBw.bInts _ = _) => hbv
    rename ((_ == _) = true) => he
    have he' : took isL ks at_.toNat = [] := by
      rw [← hbv, KBw.bInts, beq_iff_eq.mp he]; rfl
    exact exc he' _ _ _ _ _ (by assumption) (by assumption) (by assumption) (Kept.cons (by assumption) _)
  · rename (KBw.bInts _ = _) => hbv
    rename ((_ == _) = false) => he
    have he' : took isL ks at_.toNat ≠ [] := by
      intro q
      rw [← hbv, KBw.bInts, List.map_eq_nil_iff] at q
      rw [q] at he; exact absurd he (by decide)
    exact ret he' _ _ _ _ _ (by k_asm) (by k_asm) (by intro q h1 h2; unfold Kept at *; solve_by_elim) (by solve_by_elim)
end
end Mine
end
section
set_option Elab.async false
set_option maxRecDepth 100000
set_option maxHeartbeats 4000000
namespace Mine
open PySem PySem.W PySem.Spec PySem.Calls PyProof.Rows PyProof PyProof.Rows.LCg PyProof.Rows.LCt
noncomputable abbrev sgn (k : Int) : Str := ⟨#[k.toNat]⟩
theorem sgn_lay : ∀ {l : List Int}, (∀ k ∈ l, 0 ≤ k ∧ k < (128 : Int)) → PyData.canLayAll0 (l.map fun k => PyData.str (sgn k)) = true ∧ PyData.depthAll (l.map fun k => PyData.str (sgn k)) = 0
  | [], _ => ⟨by simp [PyData.canLayAll0], by simp [PyData.depthAll]⟩
  | k :: l, h => by
    have ih := sgn_lay (l := l) fun k hk => h k (List.Mem.tail _ hk)
    have hk := h k (List.Mem.head _)
    refine ⟨?_, ?_⟩
    · simp only [List.map_cons, PyData.canLayAll0, PyData.canLay0, PyData.strOk, ih.1, Bool.and_true]
      simp
      omega
    · simp only [List.map_cons, PyData.depthAll, PyData.depth, ih.2]
      rfl
theorem eq_made {prog : Program} {w : World} {A : Around} {E : Value → Shared → Prop} {s : Shared} {h₀ : Heap} {L D D2 : Addr} {news : List (Addr × Obj)} {ys : List Value} {l : List Int} {Q : Value → Shared → Prop}
    (N : News h₀ L s.heap ((D2, listOf ([] : List Value).toArray 0) :: (D, lst ys) :: news)) (hy : All2 (fun k v => ∃ t, v = Value.str (sgn k) t) l ys) (hlo : ∀ k ∈ l, 0 ≤ k ∧ k < (128 : Int)) (hu : A.units + 64 < cLine)
    (h : News h₀ L s.heap news → Q (.bool l.isEmpty) s) : wpAny (model prog w) A (compareOp .Eq (.ref D) (.ref D2)) Q E s := by
  have lay := sgn_lay hlo
  refine eq_dataH (da := .list (l.map fun k => PyData.str (sgn k))) (db := .list []) (reads_newData (News.isList N (List.Mem.tail _ (List.Mem.head _))) (All2.carried hy)) (reads_newData (News.isList N (List.Mem.head _)) .nil) ?_ (by rfl) hu ?_
  · unfold SeqAt.shaped
    rw [PyData.canLay0, lay.1, PyData.depth, lay.2]; rfl
  · have e : PyData.eqv (.list (l.map fun k => PyData.str (sgn k))) (.list []) = l.isEmpty := by
      cases l <;> simp [PyData.eqv, PyData.eqvAll]
    rw [e]
    exact h fun p hp => N p (List.Mem.tail _ (List.Mem.tail _ hp))
theorem filter_all {p : List Int} : (p.filter fun k => !isD k).isEmpty = p.all isD := by
  induction p with
  | nil => rfl
  | cons k p ih =>
    cases h : isD k
    · rw [List.filter_cons_of_pos (by rw [h]; rfl), List.all_cons, h]; rfl
    · rw [List.filter_cons_of_neg (by rw [h]; decide), List.all_cons, h, ih]; rfl
theorem dig_val : ∀ (l : List Int) (a : Nat), (∀ k ∈ l, isD k = true) → (((l.map Int.toNat).foldl (fun acc c => acc * 10 + (c - 48)) a : Nat) : Int) = l.foldl (fun v k => v * 10 + k - 48) (a : Int)
  | [], _, _ => rfl
  | k :: l, a, h => by
    have hk := isD_iff.mp (h k (List.Mem.head _))
    rw [List.map_cons, List.foldl_cons, List.foldl_cons, dig_val l _ fun k hk => h k (List.Mem.tail _ hk)]
    congr 1
    omega
theorem int_digits {p : List Int} (h : p.all isD = true) (hne : p ≠ []) (hl : p.length < 640) : PySem.intText? (strOf p) = some (valOf p) := by
  have hall : ∀ k ∈ p, isD k = true := List.all_eq_true.mp h
  have e := intText_digits (x := strOf p) (by
    rw [strOf_toList]
    intro c hc
    obtain ⟨k, hk, rfl⟩ := List.mem_map.mp hc
    have := isD_iff.mp (hall k hk)
    omega) (by rw [strOf_toList]; simpa using hne) (by rw [strOf_length]; omega)
  rw [e, strOf_toList]
  congr 1
  exact dig_val p 0 hall
theorem call_digits {prog : Program} {w : World} {A : Around} {E : Value → Shared → Prop} {s : Shared} {Q : Value → Shared → Prop} {p : List Int} {t : Tok} (h : p.all isD = true) (hne : p ≠ []) (hl : p.length < 640)
    (hQ : Q (.int (valOf p) s.toks) { s with toks := s.toks + 1 }) : wpAny (model prog w) A (call (.type "int") [.str (strOf p) t]) Q E s := KIN.call_text (int_digits h hne hl) (by rw [strOf_length]; omega) hQ
theorem valOf_lo {p : List Int} (h : p.all isD = true) : 0 ≤ valOf p := by
  have := val_ge p 0 (List.all_eq_true.mp h)
  unfold valOf
  omega
end Mine
end
section
open PySem PySem.W PyProof.Rows
open Lean Elab Tactic Meta
set_option Elab.async false
set_option maxRecDepth 100000
set_option maxHeartbeats 8000000
namespace Mine
theorem split_C {prog : Program} {w : World} {A : Around} {E : Value → Shared → Prop} {s : Shared} {h₀ : Heap} {L : Addr} {m : Str → Option Value} {news : List (Addr × Obj)} {Q : Value → Shared → Prop} {ks : List Int} {t u : Tok} (hn : ∀ k ∈ ks, 0 ≤ k ∧ k < (128 : Int)) (hlen : ks.length ≤ 10000) (hF : Fr h₀ L s.heap m) (hN : News h₀ L s.heap news)
    (h : ∀ D vs h' k, StrsAre vs ((parts ks).map strOf) → Fr h₀ L h' m → News h₀ L h' ((D, listOf vs.toArray 0) :: news) → (∀ p ∈ news, p.1 < D) → Q (.ref D) { s with heap := h', toks := k }) :
    wpAny (model prog w) A (call (.builtin "str.split") [.str (strOf ks) t, .str (Str.ofString ":") u]) Q E s :=
  KSpl.split1 hF hN (by decide) (fun D l h' k e SA F' N' hlt => h D _ h' k (by rw [← split_colon fun k hk => (hn k hk).1, ← e]; exact SA) F' N' hlt) (by rw [strOf_length, sizeLine_eq]; omega)
theorem mapM_snoc {l : List (List Int)} {vs : List Int} {p : List Int} {v : Int} (h : l.mapM partV = some vs) (hp : partV p = some v) : (l ++ [p]).mapM partV = some (vs ++ [v]) := by
  rw [List.mapM_append, h]
  simp [hp]
theorem mapM_bad : ∀ {l : List (List Int)} {i : Nat} {p : List Int}, l[i]? = some p → partV p = none → l.mapM partV = none
  | [], _, _, h, _ => by simp at h
  | a :: l, 0, p, h, hp => by
    have : a = p := by simpa using h
    subst this
    simp [hp]
  | a :: l, i + 1, p, h, hp => by
    have ih := mapM_bad (l := l) (i := i) (p := p) (by simpa using h) hp
    simp only [List.mapM_cons, ih]
    cases partV a <;> rfl
theorem parts_sub : ∀ {ks p : List Int}, p ∈ parts ks → (∀ k ∈ p, k ∈ ks ∧ k ≠ 58) ∧ p.length ≤ ks.length := by
  intro ks
  generalize hn : ks.length = n
  induction n using Nat.strongRecOn generalizing ks with
  | ind n ih =>
    intro p hp
    rcases parts_cases ks with ⟨h1, h2⟩ | ⟨q, t, rfl, h1, h2⟩
    · rw [h2, List.mem_singleton] at hp
      subst hp
      exact ⟨fun k hk => ⟨hk, h1 k hk⟩, by omega⟩
    · rw [h2] at hp
      simp only [List.length_append, List.length_cons] at hn
      rcases List.mem_cons.mp hp with rfl | hp
      · exact ⟨fun k hk => ⟨by simp [hk], h1 k hk⟩, by omega⟩
      · have := ih t.length (by omega) rfl hp
        exact ⟨fun k hk => ⟨by simp [(this.1 k hk).1], (this.1 k hk).2⟩, by omega⟩
theorem parts_count : ∀ (ks : List Int), (parts ks).length ≤ ks.length + 1
  | [] => by simp [parts]
  | k :: r => by
    have := parts_count r
    unfold parts
    split
    · simp; omega
    · split <;> rename_i h <;> rw [h] at this <;> simp at this ⊢ <;> omega
theorem strs_at : ∀ {vs : List Value} {ws : List (List Int)} {i : Nat} {v : Value}, StrsAre vs (ws.map strOf) → vs[i]? = some v → ∃ p t, ws[i]? = some p ∧ v = .str (strOf p) t
  | _, [], i, v, h, hv => by
    cases h; simp at hv
  | _, w :: ws, 0, v, h, hv => by
    rw [List.map_cons] at h
    cases h
    exact ⟨w, _, rfl, by simpa using hv.symm⟩
  | _, w :: ws, i + 1, v, h, hv => by
    rw [List.map_cons] at h
    cases h with
    | cons _ _ h =>
      obtain ⟨p, t, h1, h2⟩ := strs_at (i := i) h (by simpa using hv)
      exact ⟨p, t, by simpa using h1, h2⟩
theorem strs_len : ∀ {vs : List Value} {ws : List (List Int)}, StrsAre vs (ws.map strOf) → vs.length = ws.length
  | _, [], h => by cases h; rfl
  | _, w :: ws, h => by
    rw [List.map_cons] at h
    cases h with
    | cons _ _ h => simp [strs_len h]
theorem ints_snoc : ∀ {es : List Value} {ns : List Int} {v : Int} {t : Tok}, IntsAre es ns → IntsAre (es ++ [.int v t]) (ns ++ [v])
  | _, _, v, t, .nil => .cons v t .nil
  | _, _, v, t, .cons n u h => .cons n u (ints_snoc h)
theorem mapM_len : ∀ {l : List (List Int)} {vs : List Int}, l.mapM partV = some vs → vs.length = l.length
  | [], vs, h => by simp at h; simp [h]
  | a :: l, vs, h => by
    simp only [List.mapM_cons, Option.bind_eq_bind, Option.pure_def, Option.bind_eq_some_iff] at h
    obtain ⟨v, _, ws, h2, h3⟩ := h
    cases h3
    simp [mapM_len h2]
theorem pair_lo {ks p : List Int} (hlo : ∀ k ∈ ks, 0 ≤ k ∧ k < (128 : Int)) (h : ∀ k ∈ p, k ∈ ks ∧ k ≠ 58) : ∀ k ∈ p, 0 ≤ k ∧ k < (128 : Int) := fun k hk => hlo k (h k hk).1
theorem pair_off {news own : List (Addr × Obj)} {S E : Addr} {oS oE : Obj} (hlE : ∀ p ∈ news, p.1 < E) (hoff : OwnOff own (((S, oS) :: (E, oE) :: news).map (·.1))) : ∀ q ∈ news ++ own, q.1 ≠ E := fun q hq =>
  (List.mem_append.mp hq).elim (fun h => Nat.ne_of_lt (hlE q h)) (fun h => hoff q h _ (List.Mem.tail _ (List.Mem.head _)))
theorem pair_len {ks : List Int} {es : List Value} {vals : List Int} {i : Nat} (hes : IntsAre es vals) (hv : ((parts ks).take i).mapM partV = some vals) (hlen : ks.length ≤ 10000) : es.length ≤ 20000 := by
  have h1 := parts_count ks
  have h2 := hes.length
  have h3 := mapM_len hv
  rw [List.length_take] at h3
  omega
theorem pair_pos {ks : List Int} {vs : List Value} (hSA : StrsAre vs ((parts ks).map strOf)) : ¬ ([] : List Int).length = ((parts ks).take vs.length).length := by
  rw [strs_len hSA, List.take_length]
  have := parts_ne ks
  cases h : parts ks with
  | nil => exact absurd h this
  | cons a b => simp
noncomputable def JPair (ks : List Int) (S : Addr) (vs : List Value) (E : Addr) (m₀ : Str → Option Value) (news : List (Addr × Obj)) (i : Nat) (m₁ : Str → Option Value) (nx : List (Addr × Obj)) : Prop :=
  ∃ (es : List Value) (vals : List Int) (pv pl : Option Value) (nn : Nat), (m₁ = fun y => if y = Str.ofString "part" then pv else if y = Str.ofString "plain" then pl else m₀ y) ∧ IntsAre es vals ∧ ((parts ks).take i).mapM partV = some vals ∧ i ≤ (parts ks).length ∧
    nx = (S, listOf vs.toArray 0) :: (E, listOf es.toArray nn) :: news
theorem jpair_start {ks : List Int} {S E : Addr} {vs : List Value} {m₀ : Str → Option Value} {news : List (Addr × Obj)} : JPair ks S vs E m₀ news 0 m₀ ((S, listOf vs.toArray 0) :: (E, listOf ([] : List Value).toArray 0) :: news) := by
  refine ⟨[], [], m₀ (Str.ofString "part"), m₀ (Str.ofString "plain"), 0, ?_, .nil, by rw [List.take_zero]; rfl, Nat.zero_le _, rfl⟩
  funext y
  split
  · rename_i h; rw [h]
  · split
    · rename_i h; rw [h]
    · rfl
theorem append_E {prog : Program} {w : World} {A : Around} {E' : Value → Shared → Prop} {s : Shared} {h₀ : Heap} {L S E : Addr} {m : Str → Option Value} {rest : List (Addr × Obj)} {oS : Obj} {es : List Value} {nn : Nat} {x : Value} {Q : Value → Shared → Prop}
    (F : Fr h₀ L s.heap m) (N : News h₀ L s.heap ((S, oS) :: (E, listOf es.toArray nn) :: rest)) (hSE : S ≠ E) (hE : ∀ q ∈ rest, q.1 ≠ E) (hz : es.length ≤ 20000)
    (h : ∀ h', Fr h₀ L h' m → News h₀ L h' ((S, oS) :: (E, listOf (es ++ [x]).toArray (nn + 1)) :: rest) → Q .none { s with heap := h' }) :
    wpAny (model prog w) A (call (.builtin "list.append") [.ref E, x]) Q E' s := by
  refine append_K F N (Upd.tail hSE (Upd.head hE)) (fun h' F' N' => h h' F' (by rw [← List.push_toArray]; exact N')) ?_
  rw [List.size_toArray, sizeLine_eq]; omega
theorem append_E1 {prog : Program} {w : World} {A : Around} {E' : Value → Shared → Prop} {s : Shared} {h₀ : Heap} {L S E D : Addr} {m : Str → Option Value} {rest : List (Addr × Obj)} {oS oD : Obj} {es : List Value} {nn : Nat} {x : Value} {Q : Value → Shared → Prop}
    (F : Fr h₀ L s.heap m) (N : News h₀ L s.heap ((D, oD) :: (S, oS) :: (E, listOf es.toArray nn) :: rest)) (hSE : S ≠ E) (hE : ∀ q ∈ rest, q.1 ≠ E) (hz : es.length ≤ 20000)
    (h : ∀ h', Fr h₀ L h' m → News h₀ L h' ((S, oS) :: (E, listOf (es ++ [x]).toArray (nn + 1)) :: rest) → Q .none { s with heap := h' }) :
    wpAny (model prog w) A (call (.builtin "list.append") [.ref E, x]) Q E' s := append_E F (fun p hp => N p (List.Mem.tail _ hp)) hSE hE hz h
theorem test_dig {k : Int} (h0 : 0 ≤ k) : (!!(Builtin.Str.occurrences (Str.ofString "0123456789") (sgn k) 0 (Str.ofString "0123456789").length 1).isEmpty) = !isD k := by
  rw [StrLaws.found_one, show (Str.ofString "0123456789").cps.toList = [48, 49, 50, 51, 52, 53, 54, 55, 56, 57] by decide]
  congr 1
  rw [Bool.eq_iff_iff, isD_iff, decide_eq_true_eq, dig_memN]
  omega
theorem ne_of_len {p : List Int} (h : 1 ≤ (strOf p).length) : p ≠ [] := by
  rintro rfl
  rw [strOf_length] at h
  simp at h
theorem jpair_next {g h' : Heap} {L : Addr} {ks p : List Int} {S E D : Addr} {vs es : List Value} {vals : List Int} {vv : Value} {pv pl : Option Value} {m₀ : Str → Option Value} {news own : List (Addr × Obj)} {i nn nn' tk : Nat} {v : Int} {t : Tok} {s₁ : Shared}
    (F : Fr g L h' (fun z => if z = Str.ofString "plain" then some (.ref D) else (fun y => if y = Str.ofString "part" then some vv else (fun y => if y = Str.ofString "part" then pv else if y = Str.ofString "plain" then pl else m₀ y) y) z))
    (N : News g L h' ((S, listOf vs.toArray 0) :: (E, listOf (es ++ [Value.int v t]).toArray nn') :: (news ++ own))) (hoff : OwnOff own (((S, listOf vs.toArray 0) :: (E, listOf es.toArray nn) :: news).map (·.1)))
    (hes : IntsAre es vals) (hvals : ((parts ks).take i).mapM partV = some vals) (hp : (parts ks)[i]? = some p) (hv : partV p = some v) :
    InvEndG g L (fun m' nx => (S, listOf vs.toArray 0) ∈ nx ∧ JPair ks S vs E m₀ news (i + 1) m' nx) own s₁ { s₁ with heap := h', toks := tk } := by
  refine InvEndG.intro F N (nx := (S, listOf vs.toArray 0) :: (E, listOf (es ++ [Value.int v t]).toArray nn') :: news) ⟨List.Mem.head _, es ++ [Value.int v t], vals ++ [v], some vv, some (.ref D), nn', ?_, ints_snoc hes, ?_, ?_, rfl⟩ hoff ?_ ?_
  · funext y
    by_cases h1 : y = Str.ofString "plain"
    · subst h1; rfl
    · by_cases h2 : y = Str.ofString "part"
      · subst h2; rfl
      · simp only [if_neg h1, if_neg h2]
  · rw [List.take_add_one, hp]; exact mapM_snoc hvals hv
  · exact (List.getElem?_eq_some_iff.mp hp).1
  · intro q hq
    rcases List.mem_cons.mp hq with rfl | hq
    · exact List.Mem.head _
    · rcases List.mem_cons.mp hq with rfl | hq
      · exact List.Mem.tail _ (List.Mem.head _)
      · exact List.Mem.tail _ (List.Mem.tail _ (List.mem_append_left _ hq))
  · intro q hq
    exact List.Mem.tail _ (List.Mem.tail _ (List.mem_append_right _ hq))
theorem strOf_inj : ∀ {p q : List Int}, (∀ k ∈ p, 0 ≤ k) → (∀ k ∈ q, 0 ≤ k) → strOf p = strOf q → p = q := by
  intro p q hp hq h
  have := congrArg (fun z : Str => z.cps.toList) h
  simp only [strOf_toList] at this
  clear h
  induction p generalizing q with
  | nil => cases q with
    | nil => rfl
    | cons => simp at this
  | cons a p ih => cases q with
    | nil => simp at this
    | cons b q =>
      simp only [List.map_cons, List.cons.injEq] at this
      have h1 := hp a (List.Mem.head _)
      have h2 := hq b (List.Mem.head _)
      rw [ih (fun k hk => hp k (List.Mem.tail _ hk)) (fun k hk => hq k (List.Mem.tail _ hk)) this.2, show a = b by omega]
section
variable {p : List Int} (hlo : ∀ k ∈ p, 0 ≤ k ∧ k < (128 : Int))
include hlo
theorem star_yes (h : (strOf p == Str.ofString "*") = true) : partV p = some 0 := by
  have e : Str.ofString "*" = strOf [42] := by decide
  rw [e, beq_iff_eq] at h
  have := strOf_inj (fun k hk => (hlo k hk).1) (by simp) h
  unfold partV; rw [if_pos this]
theorem star_no (h : (strOf p == Str.ofString "*") = false) : ¬ p = [42] := by
  rintro rfl
  exact absurd h (by decide)
theorem pv_bad (h : (strOf p == Str.ofString "*") = false) (hn : ¬ (p ≠ [] ∧ (∀ k ∈ p, isD k = true) ∧ p.headD 0 ≠ 48 ∧ p.length < 19 ∧ valOf p ≤ 4294967295)) : partV p = none := by
  unfold partV; rw [if_neg (star_no hlo h), if_neg hn]
theorem pv_1 (h : (strOf p == Str.ofString "*") = false) (hn : (strOf p != Str.ofString "") = false) : partV p = none := pv_bad hlo h fun q => q.1 (by
  have e : Str.ofString "" = strOf [] := by decide
  rw [e, bne_eq_false_iff_eq] at hn
  exact strOf_inj (fun k hk => (hlo k hk).1) (by simp) hn)
theorem pv_2 (h : (strOf p == Str.ofString "*") = false) (hn : p.all isD = false) : partV p = none := pv_bad hlo h fun q => by
  rw [List.all_eq_true.mpr q.2.1] at hn; cases hn
theorem item_head (h1 : 1 ≤ (strOf p).length) : (Txt.item (strOf p) 0 == Str.ofString "0") = decide (p.headD 0 = 48) := by
  cases p with
  | nil => rw [strOf_length] at h1; simp at h1
  | cons k r =>
    rw [item_nought hlo (Int.le_refl 0) (by simp)]
    rfl
theorem pv_3 (h : (strOf p == Str.ofString "*") = false) (h1 : 1 ≤ (strOf p).length) (hn : (Txt.item (strOf p) 0 != Str.ofString "0") = false) : partV p = none := pv_bad hlo h fun q => by
  rw [bne, item_head hlo h1, Bool.not_eq_false', decide_eq_true_eq] at hn
  exact q.2.2.1 hn
theorem pv_4 (h : (strOf p == Str.ofString "*") = false) (hn : ¬ p.length < 19) : partV p = none := pv_bad hlo h fun q => hn q.2.2.2.1
theorem pv_5 (h : (strOf p == Str.ofString "*") = false) (hn : ¬ valOf p ≤ 4294967295) : partV p = none := pv_bad hlo h fun q => hn q.2.2.2.2
theorem pv_ok (h : (strOf p == Str.ofString "*") = false) (h1 : 1 ≤ (strOf p).length) (h2 : p.all isD = true) (h3 : (Txt.item (strOf p) 0 != Str.ofString "0") = true) (h4 : p.length < 19) (h5 : valOf p ≤ 4294967295) : partV p = some (valOf p) := by
  unfold partV
  rw [if_neg (star_no hlo h), if_pos]
  refine ⟨ne_of_len h1, List.all_eq_true.mp h2, ?_, h4, h5⟩
  rw [bne, item_head hlo h1, Bool.not_eq_true', decide_eq_false_iff_not] at h3
  exact h3
end
theorem pair_bad {ks p : List Int} {i : Nat} (hp : (parts ks)[i]? = some p) (hv : partV p = none) : pairP ks = none := by
  unfold pairP; rw [mapM_bad hp hv]
theorem pair_all {ks : List Int} {vs : List Value} {vals : List Int} (hSA : StrsAre vs ((parts ks).map strOf)) (h : ((parts ks).take vs.length).mapM partV = some vals) : (parts ks).mapM partV = some vals := by
  rwa [strs_len hSA, List.take_length] at h
theorem len_3 {prog : Program} {w : World} {A : Around} {E' : Value → Shared → Prop} {s : Shared} {h₀ : Heap} {L E : Addr} {news : List (Addr × Obj)} {a b c : Value} {es : List Value} {nn : Nat} {Q : Value → Shared → Prop}
    (N : News h₀ L s.heap news) (hm : (E, listOf (a :: b :: c :: es).toArray nn) ∈ news) (hz : (a :: b :: c :: es).length ≤ 20000)
    (h : ∀ t k, Q (.int ((es.length : Int) + 3) t) { s with toks := k }) : wpAny (model prog w) A (call (.builtin "len") [.ref E]) Q E' s := by
  refine PyProof.Rows.len_list (News.isList N hm) ?_ ?_
  · simp at hz ⊢; omega
  · have e : (((a :: b :: c :: es).toArray.size : Nat) : Int) = (es.length : Int) + 3 := by simp; omega
    rw [e]; exact h _ _
section
variable {prog : Program} {w : World} {mean : ExcName → Option Value} {mg mb : Str → Option Value}
    {dp un : Nat} {gd : Option (List Code)} {cn : Str} {cs : Scope} {a : Addr} {ccd : Value} {cl : List (Str × Addr)} {outer : List Env} {A₀ : Around} {base h₀ : Heap} {L : Addr} {m : Str → Option Value} {news : List (Addr × Obj)} {s : Shared}
    {Q E : Value → Shared → Prop}
    (B : Below A₀ base outer h₀) (F : Fr h₀ L s.heap m) (X : (Mine.laid.heap_1 w.params).In h₀) (N : News h₀ L s.heap news) (T : Top Mine.vw LL mean mg mb h₀) (hk : cs.kind = .function)
include B F X N T hk
theorem walkWords11 : True := by
  w_top off
  k_with_none
  k_with "my enter" => ((refine' code_def ?q9k1 ?q9k2 ?q9k3 ?q9k4 ?q9k5 ?q9kA ?q9kF ?q9kK ?q9k6 ?q9k7 ?q9k8 ?q9k9 ?q9kB ?_ ?q9c2 ?q9c3 ?q9c4 ?q9c5; (case q9kA => exact rfl); (case q9kF => exact rfl); (case q9kK => first | exact rfl | assumption); (case q9k1 => k_asm); (case q9k2 => k_asm); (case q9k3 => k_asm); (case q9k4 => k_asm); (case q9k5 => k_asm); (case q9k6 => k_is); (case q9k7 => k_is); (case q9k8 => ktr_room); (case q9k9 => first | exact binds_K (by k_in) rfl (by k_is) rfl rfl rfl | exact BindsTo.of_eq rfl); (case q9c5 => decide); (case q9kB => exact locs rfl); (case q9c2 => exact rfl); (case q9c3 => exact rfl); (case q9c4 => exact rfl); k_whole; intro z9g' z9L' z9h' z9FG' z9F' z9N' z9B' z9X' z9T'; (try dsimp only); (try k_fold)))
  k_with "call builtin:str.split" => (k_here; k_dflt (refine' split_C ?q9k0 ?q9k1 ?q9k2 ?q9k3 ?_; (case q9k0 => assumption); (case q9k1 => assumption); (case q9k2 => k_asm); (case q9k3 => k_asm); k_whole); intro z9D' z9vs' z9h' z9k' z9SA' z9F' z9N' z9l1')
  k_with "call builtin:len" => (k_here; (with_reducible show wpAny _ _ (call (Value.builtin _) [Value.ref _]) _ _ _); k_dflt (refine' len_3 ?q9N ?q9m ?q9z ?_; (case q9N => k_asm); (case q9m => k_mem); (case q9z => assumption); k_whole); intro z9t' z9k')
  k_with "TestEnd" => exact ⟨test_dig ((by assumption : ∀ j ∈ _, 0 ≤ j ∧ j < (128 : Int)) _ (by assumption)).1, _, _, rfl, by k_asm, by k_asm⟩
  k_with "exec Assign cons ListComp" => (k_here; k_dflt (refine Assign_comp_ST (F₀ := by k_asm) (by rfl) (by with_unfolding_all rfl) (by with_unfolding_all rfl) (by decide) (by rfl) (by decide) (by rfl) (by rfl) (by rfl) ?_))
  k_with "SrcST" => (k_here; k_dflt (refine' SrcST.intro (q := fun k => !isD k) (res := fun k v => ∃ t, v = Value.str (sgn k) t) rfl ?q9F ?q9N ?q9hb ?q9hlen ?_ ?_ ?_; (case q9F => k_asm); (case q9N => k_asm); (case q9hb => assumption); (case q9hlen => assumption)); (intro z9k' z9t' z9I' z9oI' z9C' z9oC' z9D' z9m2 z9ys' z9h' z9tk' z9E' z9hk' z9hC' z9hx' z9F' z9N' z9off' z9ne'); rotate_left; (intro z9k' z9t' z9I' z9oI' z9C' z9oC' z9D' z9m2 z9ys' z9h' z9tk' z9E' z9hk' z9hC' z9hx' z9F' z9N' z9off' z9ne'); rotate_left; (intro z9g' z9ys' z9hy' z9D' z9h' z9tk' z9F' z9N' z9off'); rotate_left)
  k_with "mem in" => (repeat (first | with_reducible assumption | exact List.mem_append_left _ (by with_reducible assumption) | refine List.mem_cons_of_mem _ ?_))
  k_with "EltEnd" => exact ⟨_, _, rfl, by k_asm, by k_asm, _, rfl⟩
  k_with "compareOp Eq ref ref" => (k_here; k_dflt (refine' eq_made ?q9N ?q9y ?q9l ?q9u ?_; (case q9N => k_asm); (case q9y => assumption); (case q9l => exact fun k hk => (by assumption : ∀ j ∈ _, 0 ≤ j ∧ j < (128 : Int)) k (List.mem_filter.mp hk).1); (case q9u => ktr_units); k_whole); intro z9N'; (try dsimp only at z9N'); rw [filter_all])
  k_with "call builtin:list.append" => (k_here; (with_reducible show wpAny _ _ (call (Value.builtin _) [Value.ref _, _]) _ _ _); k_dflt (refine' append_E1 ?q9F ?q9N ?q9a ?q9b ?q9z ?_; (case q9F => k_asm); (case q9N => k_asm); (case q9a => assumption); (case q9b => assumption); (case q9z => assumption); k_whole); intro z9h' z9F' z9N')
  k_with "call builtin:list.append" => (k_here; (with_reducible show wpAny _ _ (call (Value.builtin _) [Value.ref _, _]) _ _ _); k_dflt (refine' append_E ?q9F ?q9N ?q9a ?q9b ?q9z ?_; (case q9F => k_asm); (case q9N => k_asm); (case q9a => assumption); (case q9b => assumption); (case q9z => assumption); k_whole); intro z9h' z9F' z9N')
  k_with "call type:int" => (k_here; k_dflt (refine' call_digits ?q9a ?q9b ?q9c ?_; (case q9a => assumption); (case q9b => exact ne_of_len (by assumption)); (case q9c => omega); k_whole))
  trivial
theorem pair_spec {tt : Tok} {X : Str} {ks : List Int} (hX : X = strOf ks) (hlen : ks.length ≤ 10000) (hlo : ∀ k ∈ ks, 0 ≤ k ∧ k < (128 : Int)) (hs : ∀ k ∈ ks, isD k = true ∨ k = 42 ∨ k = 58)
    (hdp : dp + 4 < recursionLimit) (hun : un + 100 < cLine)
    (none : pairP ks = none → ∀ nx h' tk', Fr h₀ L h' m → News h₀ L h' nx → (∀ p ∈ news, p ∈ nx) → Q .none { s with heap := h', toks := tk' })
    (some : ∀ lo hi, pairP ks = some (lo, hi) → ∀ P t1 t2 nx h' tk', Fr h₀ L h' m → News h₀ L h' nx → (∀ p ∈ news, p ∈ nx) → (P, ({ cls := .type "tuple", data := .seq #[.int lo t1, .int hi t2] } : Obj)) ∈ nx → Q (.ref P) { s with heap := h', toks := tk' }) :
    wpAny (model prog w) (ktrTop dp un gd cn cs L a ccd cl outer) (call (.ref 682) [.str X tt]) Q E s := by
  subst hX
  refine wpAny_call ?_
  k_dflt (walk_at "my enter")
  k_with "pyIter ref" => (k_here; (rename StrsAre _ _ => hSA); (rename Fr _ _ _ _ => hFw); (rename News _ _ _ _ => hNw); (rename (∀ p ∈ ((_, _) :: _), Prod.fst p < _) => hlS); (rename (∀ p ∈ news, Prod.fst p < _) => hlE); k_dflt (refine' kdl_iter (JPair ks _ _ _ _ news) rfl (List.Mem.head _) hFw hNw jpair_start ?_ ?_; k_whole; clear hFw hNw); (rintro i v m1 nx hh1 tk1 own hv hoff hl ⟨es, vals, pv, pl, nn, rfl, hes, hvals, hi, rfl⟩ F1 N1; (simp only [List.cons_append] at N1); (obtain ⟨p, t, hp, rfl⟩ := strs_at hSA hv); (have hpm := parts_sub (List.mem_of_getElem? hp)); (have hplo := pair_lo hlo hpm.1); (have hplen := Nat.le_trans hpm.2 hlen); (have hsl := strOf_length (ks := p)); (have hSE := Nat.ne_of_gt (hlS _ (List.Mem.head _))); (have hEE := pair_off hlE hoff); (have hez := pair_len hes hvals hlen)); rotate_left; (rintro m1 nx hh1 tk1 ⟨es, vals, pv, pl, nn, rfl, hes, hvals, hi, rfl⟩ F1 N1; (have hez := pair_len hes hvals hlen); rcases hes with _ | ⟨v1, t1, hes⟩; (exact absurd (mapM_len hvals) (pair_pos hSA)); rcases hes with _ | ⟨v2, t2, hes⟩; rotate_left; rcases hes with _ | ⟨v3, t3, hes⟩); rotate_left)
  k_steps
  · exact none (by unfold pairP; rw [pair_all hSA hvals]) _ _ _ (by k_asm) (by k_asm) (fun q hq => by walk_at "mem in")
  · exact jpair_next (by k_asm) (by k_asm) hoff hes hvals hp (star_yes hplo (by assumption))
  · exact jpair_next (by k_asm) (by k_asm) hoff hes hvals hp (pv_ok hplo (by assumption) (by assumption) (by assumption) (by assumption) (by omega) (by omega))
  iterate 5 first
    | exact none (pair_bad hp (pv_1 hplo (by assumption) (by assumption))) _ _ _ (by k_asm) (by k_asm) (fun q hq => by walk_at "mem in")
    | exact none (pair_bad hp (pv_2 hplo (by assumption) (by assumption))) _ _ _ (by k_asm) (by k_asm) (fun q hq => by walk_at "mem in")
    | exact none (pair_bad hp (pv_3 hplo (by assumption) (by assumption) (by assumption))) _ _ _ (by k_asm) (by k_asm) (fun q hq => by walk_at "mem in")
    | exact none (pair_bad hp (pv_4 hplo (by assumption) (by omega))) _ _ _ (by k_asm) (by k_asm) (fun q hq => by walk_at "mem in")
    | exact none (pair_bad hp (pv_5 hplo (by assumption) (by omega))) _ _ _ (by k_asm) (by k_asm) (fun q hq => by walk_at "mem in")
  · exact some _ _ (by unfold pairP; rw [pair_all hSA hvals]) _ _ _ _ _ _ (by k_asm) (by k_asm) (fun q hq => by walk_at "mem in") (List.Mem.head _)
  · exact some _ _ (by unfold pairP; rw [pair_all hSA hvals]) _ _ _ _ _ _ (by k_asm) (by k_asm) (fun q hq => by walk_at "mem in") (List.Mem.head _)
end
end Mine
end
section
set_option maxRecDepth 100000
namespace Mine
open PySem PySem.W PyProof.Rows PyProof
noncomputable def leafP (W : Str) : Option Dat := if W = Str.ofString "ALL" then some tAll else if W = Str.ofString "UNSEEN" then some (tNot tFlag) else if W = Str.ofString "NEW" then some (tNot tAll) else none
section
variable {key : Key} {ks : List Int} {i j q : Int} {D D2 : Dat}
theorem wEnd_int (h0 : 0 ≤ i) : wEnd ks i.toNat = (i + (took isL ks i.toNat).length).toNat := by unfold wEnd; omega
theorem pk_256 (h : ∀ k ∈ ks, 0 ≤ k ∧ k < (128 : Int)) {i : Nat} : pk ks i < 256 := by
  by_cases hi : i < ks.length
  · have := (pk_lo h hi).2; omega
  · rw [pk_ge (by omega)]; decide
theorem set_contains {k : Int} : (KBw.bInts #[48, 49, 50, 51, 52, 53, 54, 55, 56, 57, 58, 42, 44]).contains k = isS k := by
  show ([(48 : Int), 49, 50, 51, 52, 53, 54, 55, 56, 57] ++ [58, 42, 44]).contains k = _
  rw [Bool.eq_iff_iff, List.contains_iff_mem, List.mem_append, dig_memZ]
  simp only [List.mem_cons, List.not_mem_nil, or_false, isS, Bool.or_eq_true, Bool.and_eq_true, decide_eq_true_eq]
  omega
theorem isS_neg {k : Int} (h : k < 0) : isS k = false := by
  unfold isS
  rw [decide_eq_false (p := 48 ≤ k) (by omega), decide_eq_false (p := k = 58) (by omega), decide_eq_false (p := k = 44) (by omega), decide_eq_false (p := k = 42) (by omega)]
  rfl
theorem step_open (h : pk ks i.toNat = 40) {r : Option (Dat × Nat)} (hr : (match rowP key ks (i.toNat + 1) with | none => none | some r => if pk ks r.2 = 41 then some (r.1, r.2 + 1) else none) = r) : stepP key ks i.toNat = r := by
  unfold stepP; rw [if_pos h]; exact hr
theorem step_set {lo hi : Int} (h0 : 0 ≤ i) (h1 : pk ks i.toNat ≠ 40) (h2 : isS (pk ks i.toNat) = true) (h : setP (took isS ks i.toNat) = some (lo, hi)) : stepP key ks i.toNat = some (tSeq lo hi, (i + (took isS ks i.toNat).length).toNat) := by
  unfold stepP
  rw [if_neg h1, if_pos h2, h, show (i + (took isS ks i.toNat).length).toNat = i.toNat + (took isS ks i.toNat).length by omega]
theorem step_setN (h1 : pk ks i.toNat ≠ 40) (h2 : isS (pk ks i.toNat) = true) (h : setP (took isS ks i.toNat) = none) : stepP key ks i.toNat = none := by
  unfold stepP
  rw [if_neg h1, if_pos h2, h]
theorem step_word (h0 : 0 ≤ i) (h1 : pk ks i.toNat ≠ 40) (h2 : isS (pk ks i.toNat) = false) : stepP key ks i.toNat = wordP key ks (strOf ((took isL ks i.toNat).map upL)) (i + (took isL ks i.toNat).length).toNat := by
  unfold stepP
  rw [if_neg h1, if_neg (by rw [h2]; decide), wEnd_int h0]
  rfl
theorem word_nil {e : Nat} (h : took isL ks i.toNat = []) : wordP key ks (strOf ((took isL ks i.toNat).map upL)) e = none := by
  rw [h]
  show wordP key ks (Str.ofString "") e = none
  unfold wordP
  rw [if_neg (by decide), if_neg (by decide), if_neg (by decide), if_neg (by decide), if_neg (by decide)]
theorem word_notS {W : Str} {e : Int} (h : (W == Str.ofString "NOT") = true) (hb : pk ks e.toNat ≠ 32) : wordP key ks W e.toNat = none := by
  unfold wordP; rw [if_pos (beq_iff_eq.mp h), if_neg hb]
theorem word_notN {W : Str} {e : Int} (h0 : 0 ≤ e) (h : (W == Str.ofString "NOT") = true) (hb : pk ks e.toNat = 32) (hk : key (e + 1).toNat = none) : wordP key ks W e.toNat = none := by
  unfold wordP; rw [if_pos (beq_iff_eq.mp h), if_pos hb, show e.toNat + 1 = (e + 1).toNat by omega, hk]
theorem word_not {W : Str} {e : Int} (h0 : 0 ≤ e) (h : (W == Str.ofString "NOT") = true) (hb : pk ks e.toNat = 32) (hk : key (e + 1).toNat = some (D, j.toNat)) : wordP key ks W e.toNat = some (tNot D, j.toNat) := by
  unfold wordP; rw [if_pos (beq_iff_eq.mp h), if_pos hb, show e.toNat + 1 = (e + 1).toNat by omega, hk]
theorem word_ne {W X : Str} (h : (W == X) = false) : ¬ W = X := by rwa [beq_eq_false_iff_ne] at h
theorem word_or0 {W : Str} {e : Int} (h1 : (W == Str.ofString "NOT") = false) (h : (W == Str.ofString "OR") = true) (hb : pk ks e.toNat ≠ 32) : wordP key ks W e.toNat = none := by
  unfold wordP; rw [if_neg (word_ne h1), if_pos (beq_iff_eq.mp h), if_neg hb]
theorem word_or1 {W : Str} {e : Int} (h0 : 0 ≤ e) (h1 : (W == Str.ofString "NOT") = false) (h : (W == Str.ofString "OR") = true) (hb : pk ks e.toNat = 32) (hk : key (e + 1).toNat = none) : wordP key ks W e.toNat = none := by
  unfold wordP orP; rw [if_neg (word_ne h1), if_pos (beq_iff_eq.mp h), if_pos hb, show e.toNat + 1 = (e + 1).toNat by omega, hk]
theorem word_or2 {W : Str} {e : Int} (h0 : 0 ≤ e) (h1 : (W == Str.ofString "NOT") = false) (h : (W == Str.ofString "OR") = true) (hb : pk ks e.toNat = 32) (hk : key (e + 1).toNat = some (D, j.toNat)) (hb2 : pk ks j.toNat ≠ 32) : wordP key ks W e.toNat = none := by
  unfold wordP orP; rw [if_neg (word_ne h1), if_pos (beq_iff_eq.mp h), if_pos hb, show e.toNat + 1 = (e + 1).toNat by omega, hk]
  dsimp only
  rw [if_neg hb2]
theorem word_or3 {W : Str} {e : Int} (h0 : 0 ≤ e) (h1 : (W == Str.ofString "NOT") = false) (h : (W == Str.ofString "OR") = true) (hb : pk ks e.toNat = 32) (hk : key (e + 1).toNat = some (D, j.toNat)) (hb2 : pk ks j.toNat = 32) (hk2 : key (j + 1).toNat = none) (hj : 0 ≤ j) : wordP key ks W e.toNat = none := by
  unfold wordP orP; rw [if_neg (word_ne h1), if_pos (beq_iff_eq.mp h), if_pos hb, show e.toNat + 1 = (e + 1).toNat by omega, hk]
  dsimp only
  rw [if_pos hb2, show j.toNat + 1 = (j + 1).toNat by omega, hk2]
theorem word_or {W : Str} {e : Int} (h0 : 0 ≤ e) (h1 : (W == Str.ofString "NOT") = false) (h : (W == Str.ofString "OR") = true) (hb : pk ks e.toNat = 32) (hk : key (e + 1).toNat = some (D, j.toNat)) (hb2 : pk ks j.toNat = 32) (hk2 : key (j + 1).toNat = some (D2, q.toNat)) (hj : 0 ≤ j) : wordP key ks W e.toNat = some (tOr D D2, q.toNat) := by
  unfold wordP orP; rw [if_neg (word_ne h1), if_pos (beq_iff_eq.mp h), if_pos hb, show e.toNat + 1 = (e + 1).toNat by omega, hk]
  dsimp only
  rw [if_pos hb2, show j.toNat + 1 = (j + 1).toNat by omega, hk2]
theorem word_leaf {W : Str} {e : Int} (h1 : (W == Str.ofString "NOT") = false) (h2 : (W == Str.ofString "OR") = false) (h : leafP W = some D) : wordP key ks W e.toNat = some (D, e.toNat) := by
  unfold wordP
  rw [if_neg (word_ne h1), if_neg (word_ne h2)]
  unfold leafP at h
  split at h
  · rename_i q; rw [if_pos q]; cases h; rfl
  · rename_i q; rw [if_neg q]
    split at h
    · rename_i q; rw [if_pos q]; cases h; rfl
    · rename_i q; rw [if_neg q]
      split at h
      · rename_i q; rw [if_pos q]; cases h; rfl
      · cases h
theorem word_leafN {W : Str} {e : Int} (h1 : (W == Str.ofString "NOT") = false) (h2 : (W == Str.ofString "OR") = false) (h : leafP W = none) : wordP key ks W e.toNat = none := by
  unfold wordP
  rw [if_neg (word_ne h1), if_neg (word_ne h2)]
  unfold leafP at h
  split at h
  · cases h
  · rename_i q; rw [if_neg q]
    split at h
    · cases h
    · rename_i q; rw [if_neg q]
      split at h
      · cases h
      · rename_i q; rw [if_neg q]
end
end Mine
end
section
open PySem PySem.W PyProof.Rows
open Lean Elab Tactic Meta
set_option Elab.async false
set_option maxRecDepth 100000
set_option maxHeartbeats 8000000
namespace Mine
noncomputable def JEnd (ks : List Int) (i : Int) (news : List (Addr × Obj)) (mm : Str → Option Value) (k : Nat) (m₁ : Str → Option Value) (nx : List (Addr × Obj)) : Prop :=
  news = nx ∧ ∃ e te v tv, (m₁ = fun y => if y = Str.ofString "number" then some (Value.int v tv) else if y = Str.ofString "end" then some (Value.int e te) else mm y) ∧ i ≤ e ∧ e ≤ ks.length ∧ (∀ l : Nat, i ≤ l → l < e → isD (ks.getD l 0) = true) ∧ v = capOf ((ks.drop i.toNat).take (e.toNat - i.toNat)) ∧ k = ks.length - e.toNat
theorem jend_start {ks : List Int} {i : Int} {news : List (Addr × Obj)} {mm : Str → Option Value} {te tv : Tok} (h0 : 0 ≤ i) (hl : i ≤ ks.length) (h1 : mm (Str.ofString "number") = some (.int 0 tv)) (h2 : mm (Str.ofString "end") = some (.int i te)) : JEnd ks i news mm (ks.length - i.toNat) mm news := by
  refine ⟨rfl, i, te, 0, tv, ?_, Int.le_refl _, hl, fun l a b => absurd a (by omega), by rw [Nat.sub_self]; rfl, rfl⟩
  funext y
  split
  · rename_i h; rw [h]; exact h1
  · split
    · rename_i h; rw [h]; exact h2
    · rfl
theorem jend_step {g hh : Heap} {L : Addr} {s : Shared} {tk : Nat} {Q : Flow → Shared → Prop} {mm mf : Str → Option Value} {news : List (Addr × Obj)} {ks : List Int} {i e1 v1 v2 : Int} {te tv : Tok}
    (F : Fr g L hh mf) (N : News g L hh news) (hlo : i ≤ e1) (h0 : 0 ≤ i) (hlt : e1 < ks.length) (hall : ∀ l : Nat, i ≤ l → l < e1 → isD (ks.getD l 0) = true) (hp : isD (pk ks e1.toNat) = true)
    (hv1 : v1 = capOf ((ks.drop i.toNat).take (e1.toNat - i.toNat))) (hv2 : v2 = capStep v1 (pk ks e1.toNat))
    (m1 : mf (Str.ofString "number") = some (.int v2 tv)) (m2 : mf (Str.ofString "end") = some (.int (e1 + 1) te)) (m3 : ∀ y, y ≠ Str.ofString "number" → y ≠ Str.ofString "end" → mf y = mm y) :
    WhileStep2 g L s (JEnd ks i news mm) Q (ks.length - e1.toNat) .next { s with heap := hh, toks := tk } := by
  refine ⟨_, _, _, _, ks.length - (e1 + 1).toNat, rfl, F, N, by omega, rfl, e1 + 1, te, v2, tv, ?_, by omega, by omega, fun l h3 h4 => ?_, ?_, rfl⟩
  · funext y
    split
    · rename_i h; rw [h]; exact m1
    · rename_i h'
      split
      · rename_i h; rw [h]; exact m2
      · rename_i h''; exact m3 y h' h''
  · by_cases h5 : (l : Int) < e1
    · exact hall l h3 h5
    · have : l = e1.toNat := by omega
      rw [this, ← pk_lt (by omega)]; exact hp
  · rw [cap_next h0 hlo hlt, ← hv1]; exact hv2
section
variable {prog : Program} {w : World} {mean : ExcName → Option Value} {mg mb : Str → Option Value}
    {dp un : Nat} {gd : Option (List Code)} {cn : Str} {cs : Scope} {a : Addr} {ccd : Value} {cl : List (Str × Addr)} {outer : List Env} {A₀ : Around} {base h₀ : Heap} {L : Addr} {m : Str → Option Value} {news : List (Addr × Obj)} {s : Shared}
    {Q E : Value → Shared → Prop}
    (B : Below A₀ base outer h₀) (F : Fr h₀ L s.heap m) (X : (Mine.laid.heap_1 w.params).In h₀) (N : News h₀ L s.heap news) (T : Top Mine.vw LL mean mg mb h₀) (hk : cs.kind = .function)
include B F X N T hk
theorem walkWords12 : True := by
  w_top off
  k_with_none
  k_with "my enter" => ((refine' code_def ?q9k1 ?q9k2 ?q9k3 ?q9k4 ?q9k5 ?q9kA ?q9kF ?q9kK ?q9k6 ?q9k7 ?q9k8 ?q9k9 ?q9kB ?_ ?q9c2 ?q9c3 ?q9c4 ?q9c5; (case q9kA => exact rfl); (case q9kF => exact rfl); (case q9kK => first | exact rfl | assumption); (case q9k1 => k_asm); (case q9k2 => k_asm); (case q9k3 => k_asm); (case q9k4 => k_asm); (case q9k5 => k_asm); (case q9k6 => k_is); (case q9k7 => k_is); (case q9k8 => ktr_room); (case q9k9 => first | exact binds_K (by k_in) rfl (by k_is) rfl rfl rfl | exact BindsTo.of_eq rfl); (case q9c5 => decide); (case q9kB => exact locs rfl); (case q9c2 => exact rfl); (case q9c3 => exact rfl); (case q9c4 => exact rfl); k_whole; intro z9g' z9L' z9h' z9FG' z9F' z9N' z9B' z9X' z9T'; (try dsimp only); (try k_fold)))
  k_with "setAttr ref" => (k_here; (with_reducible show wpAny _ _ (setAttr (Value.ref _) (PySem.Str.ofString "at") (Value.int _ _)) _ _ _); k_dflt (refine' setW_at ?q9F ?q9X ?q9N ?q9x ?q9d ?_; (case q9F => k_asm); (case q9X => k_asm); (case q9N => k_asm); (case q9x => k_mem); (case q9d => k_mem); k_whole); intro z9h' z9F' z9N')
  k_with "exec Raise some none" => (k_here; k_dflt (refine' RaiseX ?q9hh ?_; (case q9hh => exact rfl); k_whole))
  k_with "RaisableX" => (k_here; k_dflt (refine' ⟨_, _, _, _, rfl, News.get ?q9N ?q9m, xcls_of (K := Mine.laid.heap_1 _) (Frag.In.keeps ?q9X (Fr.keep ?q9F)) ?q9q, ?_⟩; (case q9F => k_asm); (case q9N => k_asm); (case q9m => k_mem); (case q9X => k_asm); (case q9q => kernel_rfl); k_whole))
  k_with "leaving ref" => (k_here; k_dflt (first
  | (refine' leave_own (ctx := Value.none) ?q9K ?q9F ?q9N ?q9ne ?_ ?q9hk; (case q9F => k_asm); (case q9N => k_asm); (case q9K => k_asm); (case q9ne => assumption); (case q9hk => exact rfl); k_whole; intro z9h' z9R' z9Th' z9U')
  | (refine' leave_thrown ?q9K ?q9F ?q9R ?q9U ?_; (case q9R => assumption); (case q9F => assumption); (case q9K => k_asm); (case q9U => assumption); k_whole; intro z9h' z9Th' z9U')
  | (refine' leave_onSN ?q9K ?q9F ?q9R ?q9U ?_; (case q9R => assumption); (case q9F => assumption); (case q9K => k_asm); (case q9U => assumption); k_whole; intro z9h' z9R' _ z9U')))
  k_with "call ref" => ((with_reducible show wpAny _ _ (PySem.call (Value.ref 502) _) _ _ _); k_here; k_dflt (refine wpAny_call ?_; (walk_at "my enter")))
  k_with "call ref" => ((with_reducible show wpAny _ _ (PySem.call (Value.ref 83) _) _ _ _); k_here; k_dflt (refine' mk_exc ?q9kB ?q9kF ?q9kX ?q9kN ?q9kT ?q9kk ?q9kc ?q9kc2 ?q9q1 ?q9q2 ?q9q3 ?q9q4 ?q9kr ?q9ku ?_; (case q9kB => k_asm); (case q9kF => k_asm); (case q9kX => k_asm); (case q9kN => k_asm); (case q9kT => k_asm); (case q9kk => first | exact rfl | assumption); (case q9kc => kernel_rfl); (case q9kc2 => kernel_rfl); (case q9q1 => k_is); (case q9q2 => k_is); (case q9q3 => k_is); (case q9q4 => k_is); (case q9kr => ktr_room); (case q9ku => ktr_units); k_whole); (intro z9e z9t z9dd z9k1 z9k2 z9t1 z9t2 z9h' z9tk' z9F' z9N' z9hne z9hlt))
  k_with "call ref" => ((with_reducible show wpAny _ _ (PySem.call (Value.ref 119) _) _ _ _); k_here; k_dflt (refine' mk_exc ?q9kB ?q9kF ?q9kX ?q9kN ?q9kT ?q9kk ?q9kc ?q9kc2 ?q9q1 ?q9q2 ?q9q3 ?q9q4 ?q9kr ?q9ku ?_; (case q9kB => k_asm); (case q9kF => k_asm); (case q9kX => k_asm); (case q9kN => k_asm); (case q9kT => k_asm); (case q9kk => first | exact rfl | assumption); (case q9kc => kernel_rfl); (case q9kc2 => kernel_rfl); (case q9q1 => k_is); (case q9q2 => k_is); (case q9q3 => k_is); (case q9q4 => k_is); (case q9kr => ktr_room); (case q9ku => ktr_units); k_whole); (intro z9e z9t z9dd z9k1 z9k2 z9t1 z9t2 z9h' z9tk' z9F' z9N' z9hne z9hlt))
  k_with "compareOp In int bytes" => (k_here; k_dflt (refine' in_bytes ?q9h0 ?q9h1 ?_; (case q9h0 => first | assumption | omega); (case q9h1 => first | assumption | omega); k_whole))
  trivial
theorem readend_spec {tt ti : Tok} {ks : List Int} {i : Int} (hlen : ks.length ≤ 10000) (hlo : ∀ k ∈ ks, 0 ≤ k ∧ k < (128 : Int)) (h0 : 0 ≤ i) (hl : i ≤ ks.length)
    (hdp : dp + 6 < recursionLimit) (hun : un + 32 < cLine)
    (ret : ∀ v (j : Int), endP ks i.toNat = some (v, j.toNat) → i < j → j ≤ ks.length → ∀ D t1 t2 h' tk', Fr h₀ L h' m → News h₀ L h' ((D, { cls := .type "tuple", data := .seq #[.int v t1, .int j t2] }) :: news) → (∀ p ∈ news, p.1 < D) → Q (.ref D) { s with heap := h', toks := tk' })
    (exc : endP ks i.toNat = none → ∀ g e dd k1 k2 t1 t2 u1 u2 x z h' tk', Fr h₀ L g m → Thrown base g (envX cn cs L a ccd cl :: outer) e 83 dd ((dd, dictOf [⟨k1, .str (Str.ofString "what") t1, .str x u1⟩, ⟨k2, .str (Str.ofString "at") t2, .int z u2⟩] 2) :: news) h' → g.UpToSlots h' → (∀ p ∈ news, p.1 < dd) → E (.ref e) { s with heap := h', toks := tk' }) :
    wpAny (model prog w) (ktrTop dp un gd cn cs L a ccd cl outer) (call (.ref 284) [.str (strOf ks) tt, .int i ti]) Q E s := by
  have hsl : (strOf ks).length = ks.length := strOf_length
  refine wpAny_call ?_
  k_dflt (walk_at "my enter")
  k_with "exec While" => (k_here; (rename Fr _ _ _ _ => hFw); (rename News _ _ _ _ => hNw); k_dflt (refine' While_J (JEnd ks i news) hFw hNw (jend_start h0 hl (by rfl) (by rfl)) ?_ (by passes_own); k_whole; clear hFw hNw; rintro kk mm nx hh1 tk1 F1 N1 ⟨rfl, e1, te1, v1, tv1, rfl, hlo1, hhi1, hall1, hv1, rfl⟩))
  k_steps
  all_goals ((try clear ek); (try clear qk))
  all_goals simp (disch := first | assumption | omega) only [item_star hlo, item_nought hlo, item_lt0 hlo, item_gt9 hlo, item_ord hlo, hsl, decide_eq_true_eq, decide_eq_false_iff_not] at *
  all_goals first
    | (refine ret _ _ (by unfold endP; rw [if_pos (by assumption), show i.toNat + 1 = (i + 1).toNat by omega]) (by omega) (by omega) _ _ _ _ _ (by k_asm) (by k_asm) (by assumption); done)
    | (refine jend_step (by k_asm) (by k_asm) hlo1 h0 (by assumption) hall1 (isD_in (by assumption) (by assumption)) hv1 ?_ rfl rfl ?_; (unfold capStep; rw [show ((4294967295 : Int) + 1) = 4294967296 by rfl]; split <;> omega); (intro y q1 q2; simp only [if_neg q1, if_neg q2]))
    | (exfalso; omega)
    | (have hE := endP_at h0 hlo1 hhi1 hall1 (fun hlt => by first | exact isD_lo (by assumption) | exact isD_hi (by assumption) | (exfalso; omega)) (by first | assumption | (rw [pk_ge (by omega)]; decide))
       rw [← hv1] at hE
       first
       | (rw [if_pos (by assumption)] at hE; exact exc hE _ _ _ _ _ _ _ _ _ _ _ _ _ (by assumption) (by first | assumption | (rename (True → Thrown _ _ _ _ _ _ _ _) => hT; exact hT trivial)) (by assumption) (by assumption))
       | (rw [if_neg (by assumption), if_pos (by assumption)] at hE; exact exc hE _ _ _ _ _ _ _ _ _ _ _ _ _ (by assumption) (by first | assumption | (rename (True → Thrown _ _ _ _ _ _ _ _) => hT; exact hT trivial)) (by assumption) (by assumption))
       | (rw [if_neg (by assumption), if_neg (by assumption), if_pos (by assumption)] at hE; exact exc hE _ _ _ _ _ _ _ _ _ _ _ _ _ (by assumption) (by first | assumption | (rename (True → Thrown _ _ _ _ _ _ _ _) => hT; exact hT trivial)) (by assumption) (by assumption))
       | (rw [if_neg (by assumption), if_neg (by assumption), if_neg (by assumption)] at hE; exact ret _ _ hE (by omega) (by omega) _ _ _ _ _ (by k_asm) (by k_asm) (by assumption)))
end
end Mine
end
section
open PySem PySem.W PyProof.Rows
open Lean Elab Tactic Meta
set_option Elab.async false
set_option maxRecDepth 100000
set_option maxHeartbeats 8000000
namespace Mine
theorem upd_lt {d : Addr} {l : List (Addr × Obj)} (h : ∀ p ∈ l, p.1 < d) : ∀ p ∈ l, p.1 ≠ d := fun p hp => Nat.ne_of_lt (h p hp)
theorem setP_none {ks : List Int} (h : endP ks (Int.toNat 0) = none) : setP ks = none := by
  unfold setP; rw [show endP ks 0 = none from h]
theorem setP_col {ks : List Int} {v1 j1 v2 j2 : Int} (h : endP ks (Int.toNat 0) = some (v1, j1.toNat)) (h0 : 0 < j1) (hc : pk ks j1.toNat = 58) (h2 : endP ks (j1 + 1).toNat = some (v2, j2.toNat)) (h3 : j1 + 1 < j2) : setP ks = if j2 = ks.length then some (v1, v2) else none := by
  unfold setP; rw [show endP ks 0 = _ from h]; dsimp only
  rw [if_pos hc, show j1.toNat + 1 = (j1 + 1).toNat by omega, h2]; dsimp only
  by_cases q : j2 = ks.length
  · rw [if_pos q, if_pos (by omega)]
  · rw [if_neg q, if_neg (by omega)]
theorem setP_col0 {ks : List Int} {v1 j1 : Int} (h : endP ks (Int.toNat 0) = some (v1, j1.toNat)) (h0 : 0 < j1) (hc : pk ks j1.toNat = 58) (h2 : endP ks (j1 + 1).toNat = none) : setP ks = none := by
  unfold setP; rw [show endP ks 0 = _ from h]; dsimp only
  rw [if_pos hc, show j1.toNat + 1 = (j1 + 1).toNat by omega, h2]
theorem setP_one {ks : List Int} {v1 j1 : Int} (h : endP ks (Int.toNat 0) = some (v1, j1.toNat)) (h0 : 0 < j1) (hc : pk ks j1.toNat ≠ 58) : setP ks = if j1 = ks.length then some (v1, v1) else none := by
  unfold setP; rw [show endP ks 0 = _ from h]; dsimp only
  rw [if_neg hc]; dsimp only
  by_cases q : j1 = ks.length
  · rw [if_pos q, if_pos (by omega)]
  · rw [if_neg q, if_neg (by omega)]
theorem pk_not {ks : List Int} {c : Int} (h : ∀ k ∈ ks, k ≠ c) (hc : 0 ≤ c) (i : Nat) : pk ks i ≠ c := by
  unfold pk
  rw [List.getD_eq_getElem?_getD]
  by_cases hi : i < ks.length
  · rw [List.getElem?_eq_getElem hi]; exact h _ (List.getElem_mem hi)
  · rw [List.getElem?_eq_none (by omega)]; show (-1 : Int) ≠ c; omega
noncomputable def JOnce (news : List (Addr × Obj)) (mm : Str → Option Value) (k : Nat) (m₁ : Str → Option Value) (nx : List (Addr × Obj)) : Prop := news = nx ∧ m₁ = mm ∧ k = 0
section
variable {prog : Program} {w : World} {mean : ExcName → Option Value} {mg mb : Str → Option Value}
    {dp un : Nat} {gd : Option (List Code)} {cn : Str} {cs : Scope} {a : Addr} {ccd : Value} {cl : List (Str × Addr)} {outer : List Env} {A₀ : Around} {base h₀ : Heap} {L : Addr} {m : Str → Option Value} {news : List (Addr × Obj)} {s : Shared}
    {Q E : Value → Shared → Prop}
    (B : Below A₀ base outer h₀) (F : Fr h₀ L s.heap m) (X : (Mine.laid.heap_1 w.params).In h₀) (N : News h₀ L s.heap news) (T : Top Mine.vw LL mean mg mb h₀) (hk : cs.kind = .function)
include B F X N T hk
theorem walkWords13 : True := by
  w_top off
  k_with_none
  k_with "my enter" => ((refine' code_def ?q9k1 ?q9k2 ?q9k3 ?q9k4 ?q9k5 ?q9kA ?q9kF ?q9kK ?q9k6 ?q9k7 ?q9k8 ?q9k9 ?q9kB ?_ ?q9c2 ?q9c3 ?q9c4 ?q9c5; (case q9kA => exact rfl); (case q9kF => exact rfl); (case q9kK => first | exact rfl | assumption); (case q9k1 => k_asm); (case q9k2 => k_asm); (case q9k3 => k_asm); (case q9k4 => k_asm); (case q9k5 => k_asm); (case q9k6 => k_is); (case q9k7 => k_is); (case q9k8 => ktr_room); (case q9k9 => first | exact binds_K (by k_in) rfl (by k_is) rfl rfl rfl | exact BindsTo.of_eq rfl); (case q9c5 => decide); (case q9kB => exact locs rfl); (case q9c2 => exact rfl); (case q9c3 => exact rfl); (case q9c4 => exact rfl); k_whole; intro z9g' z9L' z9h' z9FG' z9F' z9N' z9B' z9X' z9T'; (try dsimp only); (try k_fold)))
  k_with "setAttr ref" => (k_here; (with_reducible show wpAny _ _ (setAttr (Value.ref _) (PySem.Str.ofString "at") (Value.int _ _)) _ _ _); k_dflt (refine' setW_at ?q9F ?q9X ?q9N ?q9x ?q9d ?_; (case q9F => k_asm); (case q9X => k_asm); (case q9N => k_asm); (case q9x => k_mem); (case q9d => k_mem); k_whole); intro z9h' z9F' z9N')
  k_with "exec Raise some none" => (k_here; k_dflt (refine' RaiseX ?q9hh ?_; (case q9hh => exact rfl); k_whole))
  k_with "RaisableX" => (k_here; k_dflt (refine' ⟨_, _, _, _, rfl, News.get ?q9N ?q9m, xcls_of (K := Mine.laid.heap_1 _) (Frag.In.keeps ?q9X (Fr.keep ?q9F)) ?q9q, ?_⟩; (case q9F => k_asm); (case q9N => k_asm); (case q9m => k_mem); (case q9X => k_asm); (case q9q => kernel_rfl); k_whole))
  k_with "leaving ref" => (k_here; k_dflt (first
  | (refine' leave_own (ctx := Value.none) ?q9K ?q9F ?q9N ?q9ne ?_ ?q9hk; (case q9F => k_asm); (case q9N => k_asm); (case q9K => k_asm); (case q9ne => assumption); (case q9hk => exact rfl); k_whole; intro z9h' z9R' z9Th' z9U')
  | (refine' leave_thrown ?q9K ?q9F ?q9R ?q9U ?_; (case q9R => assumption); (case q9F => assumption); (case q9K => k_asm); (case q9U => assumption); k_whole; intro z9h' z9Th' z9U')
  | (refine' leave_onSN ?q9K ?q9F ?q9R ?q9U ?_; (case q9R => assumption); (case q9F => assumption); (case q9K => k_asm); (case q9U => assumption); k_whole; intro z9h' z9R' _ z9U')))
  k_with "call ref" => ((with_reducible show wpAny _ _ (PySem.call (Value.ref 502) _) _ _ _); k_here; k_dflt (refine wpAny_call ?_; (walk_at "my enter")))
  k_with "call ref" => ((with_reducible show wpAny _ _ (PySem.call (Value.ref 83) _) _ _ _); k_here; k_dflt (refine' mk_exc ?q9kB ?q9kF ?q9kX ?q9kN ?q9kT ?q9kk ?q9kc ?q9kc2 ?q9q1 ?q9q2 ?q9q3 ?q9q4 ?q9kr ?q9ku ?_; (case q9kB => k_asm); (case q9kF => k_asm); (case q9kX => k_asm); (case q9kN => k_asm); (case q9kT => k_asm); (case q9kk => first | exact rfl | assumption); (case q9kc => kernel_rfl); (case q9kc2 => kernel_rfl); (case q9q1 => k_is); (case q9q2 => k_is); (case q9q3 => k_is); (case q9q4 => k_is); (case q9kr => ktr_room); (case q9ku => ktr_units); k_whole); (intro z9e z9t z9dd z9k1 z9k2 z9t1 z9t2 z9h' z9tk' z9F' z9N' z9hne z9hlt))
  k_with "call ref" => ((with_reducible show wpAny _ _ (PySem.call (Value.ref 284) _) _ _ _); k_here; k_dflt (refine' readend_spec ?q9kB ?q9kF ?q9kX ?q9kN ?q9kT ?q9kk ?q9klen ?q9klo ?q9k0 ?q9kl ?q9kr ?q9ku ?_ ?_; (case q9kB => k_asm); (case q9kF => k_asm); (case q9kX => k_asm); (case q9kN => k_asm); (case q9kT => k_asm); (case q9kk => first | exact rfl | assumption); (case q9klen => assumption); (case q9klo => assumption); (case q9k0 => first | assumption | omega); (case q9kl => first | assumption | omega); (case q9kr => ktr_room); (case q9ku => ktr_units); k_whole); (intro z9v z9j z9hE z9hj1 z9hj2 z9D z9t1 z9t2 z9h' z9tk' z9F' z9N' z9hlt; (try (k_dflt (have z9hl1 := ltN (z9hlt _ (List.Mem.head _))))); (try (k_dflt (have z9hl2 := ltN (z9hlt _ (List.Mem.tail _ (List.Mem.head _)))))); (try dsimp only at z9hl1 z9hl2); (try dsimp only at z9hl1)); rotate_left; (intro z9hE z9g z9e z9dd z9k1 z9k2 z9t1 z9t2 z9u1 z9u2 z9x z9z z9h' z9tk' z9FG' z9Th' z9U' z9hlt); rotate_left)
  k_with "call builtin:list.append" => (k_here; (with_reducible show wpAny _ _ (call (Value.builtin _) [Value.ref _, _]) _ _ _); k_dflt (refine' append_K ?q9k1 ?q9k2 ?q9k3 ?_ ?q9z; (case q9k1 => k_asm); (case q9k2 => k_asm); (case q9k3 => first | (refine Upd.tail (by k_ne) (Upd.tail (by k_ne) (Upd.tail (by k_ne) (Upd.head (upd_lt ?_)))); with_reducible assumption) | (refine Upd.tail (by k_ne) (Upd.tail (by k_ne) (Upd.head (upd_lt ?_))); with_reducible assumption)); (case q9z => size_fits); k_whole); intro z9h' z9F' z9N')
  trivial
theorem readset_spec {tt : Tok} {ks : List Int} (hlen : ks.length ≤ 10000) (hlo : ∀ k ∈ ks, 0 ≤ k ∧ k < (128 : Int)) (h44 : ∀ k ∈ ks, k ≠ (44 : Int))
    (hdp : dp + 10 < recursionLimit) (hun : un + 64 < cLine)
    (ret : ∀ lo hi, setP ks = some (lo, hi) → ∀ T P t1 t2 nx h' tk', Fr h₀ L h' m → News h₀ L h' nx → (T, ({ cls := .type "tuple", data := .seq #[.ref P] } : Obj)) ∈ nx → (P, ({ cls := .type "tuple", data := .seq #[.int lo t1, .int hi t2] } : Obj)) ∈ nx → (∀ p ∈ news, p ∈ nx) → Q (.ref T) { s with heap := h', toks := tk' })
    (exc : setP ks = none → ∀ g e dd k1 k2 t1 t2 u1 u2 x z nx h' tk', Fr h₀ L g m → Thrown base g (envX cn cs L a ccd cl :: outer) e 83 dd nx h' → g.UpToSlots h' → (dd, dictOf [⟨k1, .str (Str.ofString "what") t1, .str x u1⟩, ⟨k2, .str (Str.ofString "at") t2, .int z u2⟩] 2) ∈ nx → (∀ p ∈ news, p ∈ nx) → E (.ref e) { s with heap := h', toks := tk' }) :
    wpAny (model prog w) (ktrTop dp un gd cn cs L a ccd cl outer) (call (.ref 291) [.str (strOf ks) tt]) Q E s := by
  have hsl : (strOf ks).length = ks.length := strOf_length
  refine wpAny_call ?_
  k_dflt (walk_at "my enter")
  k_with "exec While" => (k_here; (rename Fr _ _ _ _ => hFw); (rename News _ _ _ _ => hNw); k_dflt (refine' While_J (JOnce _) hFw hNw ⟨rfl, rfl, rfl⟩ ?_ (by passes_own); k_whole; clear hFw hNw; rintro kk mm nx hh1 tk1 F1 N1 ⟨rfl, rfl, rfl⟩))
  k_steps
  all_goals (try (k_dflt (unfold WhileStep2; dsimp only)))
  k_steps
  all_goals ((try clear ek); (try clear qk))
  all_goals simp (disch := first | assumption | omega) only [bne, Bool.not_eq_true', Bool.not_eq_false', item_colon hlo, item_comma hlo, hsl, decide_eq_true_eq, decide_eq_false_iff_not] at *
  all_goals first
    | (exfalso; exact pk_not h44 (by decide) _ (by assumption))
    | (refine exc ?_ _ _ _ _ _ _ _ _ _ _ _ _ _ _ (by assumption) (by first | assumption | (rename (True → Thrown _ _ _ _ _ _ _ _) => hT; exact hT trivial)) (by assumption) (by k_mem) (by intro p hp; (repeat (first | exact hp | refine List.Mem.tail _ ?_)))
       first
       | exact setP_none (by assumption)
       | exact setP_col0 (by assumption) (by assumption) (by assumption) (by assumption)
       | (rw [setP_col (by assumption) (by assumption) (by assumption) (by assumption) (by assumption), if_neg (by assumption)])
       | (rw [setP_one (by assumption) (by assumption) (by first | assumption | (rw [pk_ge (by omega)]; decide)), if_neg (by assumption)]))
    | (refine ret _ _ ?_ _ _ _ _ _ _ _ (by k_asm) (by k_asm) (by k_mem) (by k_mem) (by intro p hp; (repeat (first | exact hp | refine List.Mem.tail _ ?_)))
       first
       | (rw [setP_col (by assumption) (by assumption) (by assumption) (by assumption) (by assumption), if_pos (by assumption)])
       | (rw [setP_one (by assumption) (by assumption) (by first | assumption | (rw [pk_ge (by omega)]; decide)), if_pos (by first | assumption | omega)]))
    | (exfalso; omega)
end
end Mine
end
section
open PySem PySem.W PyProof.Rows
open Lean Elab Tactic Meta
set_option Elab.async false
set_option maxRecDepth 100000
set_option maxHeartbeats 8000000
namespace Mine
theorem took_not {p : Int → Bool} {ks : List Int} {i : Nat} {c : Int} (h : ∀ k ∈ ks, k ≠ c) : ∀ k ∈ took p ks i, k ≠ c := fun k hk => h k (took_mem k hk)
section
variable {prog : Program} {w : World} {mean : ExcName → Option Value} {mg mb : Str → Option Value}
    {dp un : Nat} {gd : Option (List Code)} {cn : Str} {cs : Scope} {a : Addr} {ccd : Value} {cl : List (Str × Addr)} {outer : List Env} {A₀ : Around} {base h₀ : Heap} {L : Addr} {m : Str → Option Value} {news : List (Addr × Obj)} {s : Shared}
    {Q E : Value → Shared → Prop}
    (B : Below A₀ base outer h₀) (F : Fr h₀ L s.heap m) (X : (Mine.laid.heap_1 w.params).In h₀) (N : News h₀ L s.heap news) (T : Top Mine.vw LL mean mg mb h₀) (hk : cs.kind = .function)
include B F X N T hk
variable {x d : Addr} {h1 h2 : Int} {t1 t2 tb ta : Tok} {b : Array UInt8} {ks : List Int} {at_ : Int} {n : Nat}
    (hx : (x, instObj 665 d) ∈ news) (hd : (d, wdict h1 h2 t1 t2 tb ta b at_ n) ∈ news) (hb : KBw.bInts b = ks) (hlen : ks.length ≤ 10000) (h0 : 0 ≤ at_) (hl : at_ ≤ ks.length)
include hx hd hb hlen h0 hl
variable (hlo : ∀ k ∈ ks, 0 ≤ k ∧ k < (128 : Int)) (h44 : ∀ k ∈ ks, k ≠ (44 : Int))
include hlo h44
variable (XB : (Mine.laid.heap_1 w.params).In base) (TB : Top Mine.vw LL mean mg mb base)
include XB TB
theorem walkWords14 : True := by
  w_top off
  k_with_none
  k_with "my enter" => ((refine' code_def ?q9k1 ?q9k2 ?q9k3 ?q9k4 ?q9k5 ?q9kA ?q9kF ?q9kK ?q9k6 ?q9k7 ?q9k8 ?q9k9 ?q9kB ?_ ?q9c2 ?q9c3 ?q9c4 ?q9c5; (case q9kA => exact rfl); (case q9kF => exact rfl); (case q9kK => first | exact rfl | assumption); (case q9k1 => k_asm); (case q9k2 => k_asm); (case q9k3 => k_asm); (case q9k4 => k_asm); (case q9k5 => k_asm); (case q9k6 => k_is); (case q9k7 => k_is); (case q9k8 => ktr_room); (case q9k9 => first | exact binds_K (by k_in) rfl (by k_is) rfl rfl rfl | exact BindsTo.of_eq rfl); (case q9c5 => decide); (case q9kB => exact locs rfl); (case q9c2 => exact rfl); (case q9c3 => exact rfl); (case q9c4 => exact rfl); k_whole; intro z9g' z9L' z9h' z9FG' z9F' z9N' z9B' z9X' z9T'; (try dsimp only); (try k_fold)))
  k_with "setAttr ref" => (k_here; (with_reducible show wpAny _ _ (setAttr (Value.ref _) (PySem.Str.ofString "at") (Value.int _ _)) _ _ _); k_dflt (refine' setW_at ?q9F ?q9X ?q9N ?q9x ?q9d ?_; (case q9F => k_asm); (case q9X => k_asm); (case q9N => k_asm); (case q9x => k_mem); (case q9d => k_mem); k_whole); intro z9h' z9F' z9N')
  k_with "call ref" => ((with_reducible show wpAny _ _ (PySem.call (Value.ref 502) _) _ _ _); k_here; k_dflt (refine wpAny_call ?_; (walk_at "my enter")))
  k_with "call ref" => ((with_reducible show wpAny _ _ (PySem.call (Value.ref 119) _) _ _ _); k_here; k_dflt (refine' mk_exc ?q9kB ?q9kF ?q9kX ?q9kN ?q9kT ?q9kk ?q9kc ?q9kc2 ?q9q1 ?q9q2 ?q9q3 ?q9q4 ?q9kr ?q9ku ?_; (case q9kB => k_asm); (case q9kF => k_asm); (case q9kX => k_asm); (case q9kN => k_asm); (case q9kT => k_asm); (case q9kk => first | exact rfl | assumption); (case q9kc => kernel_rfl); (case q9kc2 => kernel_rfl); (case q9q1 => k_is); (case q9q2 => k_is); (case q9q3 => k_is); (case q9q4 => k_is); (case q9kr => ktr_room); (case q9ku => ktr_units); k_whole); (intro z9e z9t z9dd z9k1 z9k2 z9t1 z9t2 z9h' z9tk' z9F' z9N' z9hne z9hlt))
  k_with "call ref" => ((with_reducible show wpAny _ _ (PySem.call (Value.ref 119) _) _ _ _); k_here; k_dflt (refine' mk_excM ?q9kB ?q9kF ?q9kX ?q9kN ?q9kT ?q9kk ?q9kc ?q9kc2 ?q9q1 ?q9q2 ?q9q3 ?q9q4 ?q9kr ?q9ku ?_; (case q9kB => k_asm); (case q9kF => k_asm); (case q9kX => k_asm); (case q9kN => k_asm); (case q9kT => k_asm); (case q9kk => first | exact rfl | assumption); (case q9kc => kernel_rfl); (case q9kc2 => kernel_rfl); (case q9q1 => k_is); (case q9q2 => k_is); (case q9q3 => k_is); (case q9q4 => k_is); (case q9kr => ktr_room); (case q9ku => ktr_units); k_whole); (intro z9e z9t z9dd z9k1 z9k2 z9t1 z9t2 z9h' z9tk' z9F' z9N' z9hne z9hlt))
  k_with "call ref" => ((with_reducible show wpAny _ _ (PySem.call (Value.ref 579) _) _ _ _); k_here; k_dflt (refine' settext_spec ?q9kB ?q9kF ?q9kX ?q9kN ?q9kT ?q9kk ?q9kx ?q9kd ?q9kb ?q9ke ?q9k0 ?q9kl ?q9klo ?q9knil ?q9kr ?q9ku ?_; (case q9kB => k_asm); (case q9kF => k_asm); (case q9kX => k_asm); (case q9kN => k_asm); (case q9kT => k_asm); (case q9kk => first | exact rfl | assumption); (case q9kx => first | k_mem | assumption); (case q9kd => first | k_mem | assumption); (case q9kb => assumption); (case q9ke => assumption); (case q9k0 => first | assumption | omega); (case q9kl => first | assumption | omega); (case q9klo => assumption); (case q9knil => assumption); (case q9kr => ktr_room); (case q9ku => ktr_units); k_whole); (intro z9nx z9h' z9tk' z9ta' z9tv z9F' z9N' z9hK' z9hd'; (try (k_dflt (have z9hx' := z9hK' (_, instObj 665 _) (by first | assumption | k_mem) (by first | assumption | k_ne))))))
  k_with "call ref" => ((with_reducible show wpAny _ _ (PySem.call (Value.ref 291) _) _ _ _); k_here; k_dflt (refine' readset_spec ?q9kB ?q9kF ?q9kX ?q9kN ?q9kT ?q9kk ?q9klen ?q9klo ?q9k44 ?q9kr ?q9ku ?_ ?_; (case q9kB => k_asm); (case q9kF => k_asm); (case q9kX => k_asm); (case q9kN => k_asm); (case q9kT => k_asm); (case q9kk => first | exact rfl | assumption); (case q9klen => exact took_fits (by assumption)); (case q9klo => exact took_lo (by assumption)); (case q9k44 => exact took_not (by assumption)); (case q9kr => ktr_room); (case q9ku => ktr_units); k_whole); (intro z9lo z9hi z9hS z9T z9P z9t1 z9t2 z9nx z9h' z9tk' z9F' z9N' z9hT z9hP z9hK'; (try (k_dflt (have z9hx' := z9hK' (_, instObj 665 _) (by first | assumption | k_mem) (by first | assumption | k_ne))))); rotate_left; (intro z9hS z9g z9e z9dd z9k1 z9k2 z9t1 z9t2 z9u1 z9u2 z9x z9z z9nx z9h' z9tk' z9FG' z9Th' z9U' z9hdd z9hK'); rotate_left)
  k_with "noteFrame ref" => (k_here; k_dflt (refine' hit_TB ?q9R ?q9F ?q9K ?q9U ?q9XB ?q9TB (test_name (c := .ref 83) (.inl ?q9n) ?q9x ?q9hk ?q9hx ?q9hd) ?_ ?q9hk2 ?q9hl; (case q9R => assumption); (case q9F => assumption); (case q9K => assumption); (case q9U => assumption); (case q9XB => assumption); (case q9TB => assumption); (case q9n => k_is); (case q9x => kernel_rfl); (case q9hk => exact rfl); (case q9hx => exact rfl); (case q9hd => decide); (case q9hk2 => exact rfl); (case q9hl => exact rfl); k_whole); intro z9h' z9g' z9tk' z9vs z9sl z9T' z9F' z9N' z9z' z9K' z9X' z9P')
  k_with "exec Raise some none" => (k_here; k_dflt (refine' RaiseX ?q9hh ?_; (case q9hh => exact rfl); k_whole))
  k_with "RaisableX" => (k_here; k_dflt (refine' ⟨_, _, _, _, rfl, News.get ?q9N ?q9m, xcls_of (K := Mine.laid.heap_1 _) (Frag.In.keeps ?q9X (Fr.keep ?q9F)) ?q9q, ?_⟩; (case q9F => k_asm); (case q9N => k_asm); (case q9m => k_mem); (case q9X => k_asm); (case q9q => kernel_rfl); k_whole))
  k_with "leaving ref" => (k_here; k_dflt (first
  | (refine' leave_own (ctx := Value.none) ?q9K ?q9F ?q9N ?q9ne ?_ ?q9hk; (case q9F => k_asm); (case q9N => k_asm); (case q9K => k_asm); (case q9ne => assumption); (case q9hk => exact rfl); k_whole; intro z9h' z9R' z9Th' z9U')
  | (refine' leave_thrown ?q9K ?q9F ?q9R ?q9U ?_; (case q9R => assumption); (case q9F => assumption); (case q9K => k_asm); (case q9U => assumption); k_whole; intro z9h' z9Th' z9U')
  | (refine' leave_onSN ?q9K ?q9F ?q9R ?q9U ?_; (case q9R => assumption); (case q9F => assumption); (case q9K => k_asm); (case q9U => assumption); k_whole; intro z9h' z9R' _ z9U')))
  k_with "exec Raise some none" => (k_here; k_dflt (refine' RaiseXM ?q9hh ?_; (case q9hh => exact rfl); k_whole))
  k_with "RaisableM" => (k_here; k_dflt (refine' ⟨_, _, _, _, rfl, News.get ?q9N ?q9m, xcls_of (K := Mine.laid.heap_1 _) (Frag.In.keeps ?q9X (Fr.keep ?q9F)) ?q9q, ?q9ne, hm_news ?q9N2 ?q9m2 ?q9z, suite_over ?q9K ?q9F2 ?q9N3 ?q9hne ?_ ?q9hk ?q9hl⟩; (case q9F => k_asm); (case q9N => k_asm); (case q9m => k_mem); (case q9X => k_asm); (case q9q => kernel_rfl); (case q9ne => (refine Ne.symm (Ne.symm ?_)); first | (rename (∀ p ∈ _, Prod.fst p ≠ _) => z9hneX; exact z9hneX _ (List.Mem.tail _ (List.Mem.head _)))); (case q9N2 => k_asm); (case q9m2 => k_mem); (case q9z => assumption); (case q9K => k_asm); (case q9F2 => k_asm); (case q9N3 => k_asm); (case q9hne => assumption); (case q9hk => exact rfl); (case q9hl => exact rfl); k_whole); intro z9h' z9tk' z9R' z9U')
  k_with "getAttr ref" => (k_here; k_dflt (refine' get_exc ?q9k1 ?q9k2 (inst_exc ?q9N ?q9h1 ?q9h2) ?q9km ?q9ga ?q9ge ?q9hh ?q9ha ?q9k8 ?q9k9 ?_; (case q9k1 => k_asm); (case q9k2 => k_asm); (case q9N => k_asm); (case q9h1 => k_mem); (case q9h2 => (refine List.Mem.tail _ ?_; assumption)); (case q9km => kernel_rfl); (case q9ga => k_is); (case q9ge => k_is); (case q9hh => k_is); (case q9ha => k_is); (case q9k8 => k_get); (case q9k9 => k_handed); k_whole))
  k_with "call builtin:max" => (k_here; k_dflt (refine' max_M ?q9hh ?q9F ?q9N (hm_news ?q9N2 ?q9m ?q9z) ?_; (case q9hh => exact rfl); (case q9F => k_asm); (case q9N => k_asm); (case q9N2 => k_asm); (case q9m => exact List.Mem.head _); (case q9z => assumption); k_whole); intro z9c z9tc z9h' z9tk' z9F' z9N')
  trivial
theorem sethere_spec (hS : took isS ks at_.toNat ≠ [])
    (hdp : dp + 14 < recursionLimit) (hun : un + 96 < cLine)
    (ret : ∀ lo hi, setP (took isS ks at_.toNat) = some (lo, hi) → ∀ T P nx h' tk' ta', Fr h₀ L h' m → News h₀ L h' nx → Kept d news nx → (d, wdict h1 h2 t1 t2 tb ta' b (at_ + (took isS ks at_.toNat).length) n) ∈ nx →
      (T, ({ cls := .type "tuple", data := .seq #[.ref P] } : Obj)) ∈ nx → (∃ t1 t2, (P, ({ cls := .type "tuple", data := .seq #[.int lo t1, .int hi t2] } : Obj)) ∈ nx) → Q (.ref T) { s with heap := h', toks := tk' })
    (exc : setP (took isS ks at_.toNat) = none → ∀ g e nx h' tk', Fr h₀ L g m → RaisedSN base g (envX cn cs L a ccd cl :: outer) e (.ref 119) nx h' → g.UpToSlots h' → Kept d news nx → E (.ref e) { s with heap := h', toks := tk' }) :
    wpAny (model prog w) (ktrTop dp un gd cn cs L a ccd cl outer) (call (.ref 326) [.ref x]) Q E s := by
  have hxd : x ≠ d := inst_apart N hx hd
  refine wpAny_call ?_
  k_dflt (walk_at "my enter")
  k_steps
  · rename (Kept _ _ _) => hKp
    rename (∀ p ∈ _, p ∈ _) => hsub
    rename ((_, wdict _ _ _ _ _ _ _ _ _) ∈ _) => hdw
    exact ret _ _ (by assumption) _ _ _ _ _ _ (by k_asm) (by k_asm) (fun q h1 h2 => hsub _ (hKp q h1 h2)) (hsub _ hdw) (by assumption) ⟨_, _, by assumption⟩
  · rename (Kept _ _ _) => hKp
    rename (∀ p ∈ _, p ∈ _) => hsub
    rename (KtsTurn _ _ _) => hT
    refine exc (by assumption) _ _ _ _ _ (by assumption) (RaisedSN.unturn hT (by assumption)) (up_unturn hT (by assumption)) (fun q h1 h2 => List.Mem.tail _ (List.Mem.tail _ (hsub _ (hKp q h1 h2))))
end
end Mine
end
section
set_option Elab.async false
set_option maxRecDepth 100000
set_option maxHeartbeats 4000000
namespace Mine
open PySem PySem.W PySem.Spec PySem.Calls PyProof.Rows PyProof
section
variable {prog : Program} {w : World} {A : Around} {E : Value → Shared → Prop} {s : Shared} {h₀ : Heap} {L : Addr} {m : Str → Option Value} {news : List (Addr × Obj)} {Q : Value → Shared → Prop} {x y : Str} {t u : Tok}
/-- a written text's words, all of them the other keys' -/
theorem split_K (hso : ∀ z ∈ Txt.split x y, z ∈ others) (hF : Fr h₀ L s.heap m) (hN : News h₀ L s.heap news) (hy : (y.length == 0) = false) (hsz : x.length + 2 ≤ sizeLine)
    (h : ∀ D vs h' k, StrsAre vs (Txt.split x y) → (∀ z ∈ Txt.split x y, z ∈ others) → Fr h₀ L h' m → News h₀ L h' ((D, listOf vs.toArray 0) :: news) → (∀ p ∈ news, p.1 < D) → Q (.ref D) { s with heap := h', toks := k }) :
    wpAny (model prog w) A (call (.builtin "str.split") [.str x t, .str y u]) Q E s :=
  KSpl.split1 hF hN hy (fun D l h' k e SA F' N' hlt => h D _ h' k (e ▸ SA) hso F' N' hlt) hsz
theorem any_not {ws : List Str} {W : Str} (h : ∀ z ∈ ws, z ∈ others) (hW : NotOther W) : ws.any (· == W) = false := by
  rw [List.any_eq_false]
  intro z hz e
  rw [beq_iff_eq] at e
  exact hW (e ▸ h z hz)
theorem any_not5 {ws : List Str} {W : Str} (h : ∀ z ∈ ws, z ∈ flags5) (hW : W ∉ flags5) : ws.any (· == W) = false := by
  rw [List.any_eq_false]
  intro z hz e
  rw [beq_iff_eq] at e
  exact hW (e ▸ h z hz)
theorem in_list_is {l : Addr} {vs : List Value} {ys : List Str} {k : Str} {c : Bool} (hl : s.heap.IsList l vs.toArray) (hi : StrsAre vs ys) (hc : ys.any (· == k) = c)
    (h : Q (.bool c) s) : wpAny (model prog w) A (compareOp .In (.str k t) (.ref l)) Q E s := in_list_strs hl hi (by rw [hc]; exact h)
end
theorem in_words {prog : Program} {w : World} {A : Around} {E : Value → Shared → Prop} {s : Shared} {h₀ : Heap} {L : Addr} {news : List (Addr × Obj)} {Q : Value → Shared → Prop} {l : Addr} {vs : List Value} {ys : List Str} {k : Str} {t : Tok} {c : Bool} (N : News h₀ L s.heap ((l, listOf vs.toArray 0) :: news)) (hi : StrsAre vs ys) (hc : ys.any (· == k) = c)
    (h : News h₀ L s.heap news → Q (.bool c) s) : wpAny (model prog w) A (compareOp .In (.str k t) (.ref l)) Q E s := in_list_is (News.isList N (List.Mem.head _)) hi hc (h fun p hp => N p (List.Mem.tail _ hp))
theorem in_tup {prog : Program} {w : World} {A : Around} {E : Value → Shared → Prop} {s : Shared} {h₀ : Heap} {L : Addr} {news : List (Addr × Obj)} {Q : Value → Shared → Prop} {l : Addr} {vs : List Value} {ys : List Str} {k : Str} {t : Tok} {c : Bool} (N : News h₀ L s.heap ((l, { cls := .type "tuple", data := .seq vs.toArray }) :: news)) (hi : StrsAre vs ys) (hc : ys.any (· == k) = c)
    (h : News h₀ L s.heap news → Q (.bool c) s) : wpAny (model prog w) A (compareOp .In (.str k t) (.ref l)) Q E s := in_tuple_strs (News.isTup N (List.Mem.head _)) hi (by rw [hc]; exact h fun p hp => N p (List.Mem.tail _ hp))
theorem as_false {b : Bool} (h : b = false) : b = false := h
theorem as_true {b : Bool} (h : b = true) : b = true := h
theorem slice_un {W : Str} (h : (Txt.slice W none (some 2) == Str.ofString "UN") = true) : W.cps.toList = 85 :: 78 :: (Txt.slice W (some 2) none).cps.toList := by
  have h1 := beq_iff_eq.mp h
  have hlen : 2 ≤ W.length := by
    have := Txt.length_slice_le W none (some 2)
    rw [h1] at this
    exact this
  have h2 := beq_iff_eq.mp (slice_closes_toL (x := W) (j := 2) (by decide) (by omega))
  have hl : W.cps.toList.length = W.length := Array.length_toList
  have h3 := slice_from_eq (x := W) (i := 2) (b := W.length) (by decide) (by omega) rfl
  have h4 : W.cps.toList.take 2 = [85, 78] := by
    have := congrArg (fun z : Str => z.cps.toList) (h2.symm.trans h1)
    rw [show (Str.ofString "UN").cps.toList = [85, 78] by decide] at this
    simpa using this
  rw [h3]
  show W.cps.toList = 85 :: 78 :: (W.cps.toList.drop 2).take ((W.length : Int) - 2).toNat
  rw [List.take_of_length_le (by rw [List.length_drop, hl]; omega)]
  have := List.take_append_drop 2 W.cps.toList
  rw [h4] at this
  exact this.symm
end Mine
end
section
open PySem PySem.W PyProof.Rows
open Lean Elab Tactic Meta
set_option Elab.async false
set_option maxRecDepth 100000
set_option maxHeartbeats 8000000
namespace Mine
section
variable {prog : Program} {w : World} {mean : ExcName → Option Value} {mg mb : Str → Option Value}
    {dp un : Nat} {gd : Option (List Code)} {cn : Str} {cs : Scope} {a : Addr} {ccd : Value} {cl : List (Str × Addr)} {outer : List Env} {A₀ : Around} {base h₀ : Heap} {L : Addr} {m : Str → Option Value} {news : List (Addr × Obj)} {s : Shared}
    {Q E : Value → Shared → Prop}
    (B : Below A₀ base outer h₀) (F : Fr h₀ L s.heap m) (X : (Mine.laid.heap_1 w.params).In h₀) (N : News h₀ L s.heap news) (T : Top Mine.vw LL mean mg mb h₀) (hk : cs.kind = .function)
include B F X N T hk
theorem walkWords15 : True := by
  w_top off
  k_with_none
  k_with "my enter" => ((refine' code_def ?q9k1 ?q9k2 ?q9k3 ?q9k4 ?q9k5 ?q9kA ?q9kF ?q9kK ?q9k6 ?q9k7 ?q9k8 ?q9k9 ?q9kB ?_ ?q9c2 ?q9c3 ?q9c4 ?q9c5; (case q9kA => exact rfl); (case q9kF => exact rfl); (case q9kK => first | exact rfl | assumption); (case q9k1 => k_asm); (case q9k2 => k_asm); (case q9k3 => k_asm); (case q9k4 => k_asm); (case q9k5 => k_asm); (case q9k6 => k_is); (case q9k7 => k_is); (case q9k8 => ktr_room); (case q9k9 => first | exact binds_K (by k_in) rfl (by k_is) rfl rfl rfl | exact BindsTo.of_eq rfl); (case q9c5 => decide); (case q9kB => exact locs rfl); (case q9c2 => exact rfl); (case q9c3 => exact rfl); (case q9c4 => exact rfl); k_whole; intro z9g' z9L' z9h' z9FG' z9F' z9N' z9B' z9X' z9T'; (try dsimp only); (try k_fold)))
  trivial
theorem sysflags_spec
    (hdp : dp + 4 < recursionLimit) (hun : un + 32 < cLine)
    (ret : ∀ D w1 w2 w3 w4 w5 h' tk', Fr h₀ L h' m → News h₀ L h' ((D, listOf #[.str (Str.ofString "\\Seen") w1, .str (Str.ofString "\\Answered") w2, .str (Str.ofString "\\Flagged") w3, .str (Str.ofString "\\Deleted") w4, .str (Str.ofString "\\Draft") w5] 0) :: news) → (∀ p ∈ news, p.1 < D) → Q (.ref D) { s with heap := h', toks := tk' }) :
    wpAny (model prog w) (ktrTop dp un gd cn cs L a ccd cl outer) (call (.ref 128) []) Q E s := by
  refine wpAny_call ?_
  k_dflt (walk_at "my enter")
  k_steps
  exact ret _ _ _ _ _ _ _ _ (by k_asm) (by k_asm) (by assumption)
theorem walkWords16 : True := by
  w_top off
  k_with "call ref" => ((with_reducible show wpAny _ _ (PySem.call (Value.ref 128) _) _ _ _); k_here; k_dflt (refine' sysflags_spec ?q9kB ?q9kF ?q9kX ?q9kN ?q9kT ?q9kk ?q9kr ?q9ku ?_; (case q9kB => k_asm); (case q9kF => k_asm); (case q9kX => k_asm); (case q9kN => k_asm); (case q9kT => k_asm); (case q9kk => first | exact rfl | assumption); (case q9kr => ktr_room); (case q9ku => ktr_units); k_whole); (intro z9D' z9w1' z9w2' z9w3' z9w4' z9w5' z9h' z9tk' z9F' z9N' z9l1'))
  trivial
theorem flagname_seen {t : Tok} {X : Str} (hX : X = Str.ofString "\\SEEN")
    (hdp : dp + 6 < recursionLimit) (hun : un + 48 < cLine)
    (ret : ∀ nx h' tk' t', Fr h₀ L h' m → News h₀ L h' nx → (∀ p ∈ news, p ∈ nx) → Q (.str (Str.ofString "\\Seen") t') { s with heap := h', toks := tk' }) :
    wpAny (model prog w) (ktrTop dp un gd cn cs L a ccd cl outer) (call (.ref 142) [.str X t]) Q E s := by
  subst hX
  refine wpAny_call ?_
  k_dflt (walk_at "my enter")
  k_with "pyIter ref" => (k_here; (rename Fr _ _ _ _ => hFw); (rename News _ _ _ _ => hNw); k_dflt (refine' kdl_iter (fun i mm nx => i = 0 ∧ mm = _ ∧ nx = _) rfl (List.Mem.head _) hFw hNw ⟨rfl, rfl, rfl⟩ ?_ ?_; rotate_left; (rintro m1 nx hh1 tk1 ⟨h0, _⟩; exact absurd h0 (Nat.succ_ne_zero _)); k_whole; clear hFw hNw; rintro i v m1 nx hh1 tk1 own hv hoff hl ⟨rfl, rfl, rfl⟩ F1 N1; cases hv))
  k_steps
  exact ret _ _ _ _ (by k_asm) (by k_asm) fun p hp => List.mem_append_left _ (List.Mem.tail _ hp)
end
section
variable {prog : Program} {w : World} {mean : ExcName → Option Value} {mg mb : Str → Option Value}
    {dp un : Nat} {gd : Option (List Code)} {cn : Str} {cs : Scope} {a : Addr} {ccd : Value} {cl : List (Str × Addr)} {outer : List Env} {A₀ : Around} {base h₀ : Heap} {L : Addr} {m : Str → Option Value} {news : List (Addr × Obj)} {s : Shared}
    {Q E : Value → Shared → Prop}
    (B : Below A₀ base outer h₀) (F : Fr h₀ L s.heap m) (X : (Mine.laid.heap_1 w.params).In h₀) (N : News h₀ L s.heap news) (T : Top Mine.vw LL mean mg mb h₀) (hk : cs.kind = .function)
include B F X N T hk
theorem walkWords17 : True := by
  w_top off
  k_with_none
  k_with "my enter" => ((refine' code_def ?q9k1 ?q9k2 ?q9k3 ?q9k4 ?q9k5 ?q9kA ?q9kF ?q9kK ?q9k6 ?q9k7 ?q9k8 ?q9k9 ?q9kB ?_ ?q9c2 ?q9c3 ?q9c4 ?q9c5; (case q9kA => exact rfl); (case q9kF => exact rfl); (case q9kK => first | exact rfl | assumption); (case q9k1 => k_asm); (case q9k2 => k_asm); (case q9k3 => k_asm); (case q9k4 => k_asm); (case q9k5 => k_asm); (case q9k6 => k_is); (case q9k7 => k_is); (case q9k8 => ktr_room); (case q9k9 => first | exact binds_K (by k_in) rfl (by k_is) rfl rfl rfl | exact BindsTo.of_eq rfl); (case q9c5 => decide); (case q9kB => exact locs rfl); (case q9c2 => exact rfl); (case q9c3 => exact rfl); (case q9c4 => exact rfl); k_whole; intro z9g' z9L' z9h' z9FG' z9F' z9N' z9B' z9X' z9T'; (try dsimp only); (try k_fold)))
  k_with "call builtin:str.split" => (k_here; (with_reducible show wpAny _ _ (call (Value.builtin "str.split") [_, _]) _ _ _); k_dflt (refine' split_K ?q9k0 ?q9k1 ?q9k2 ?q9k3 ?q9k4 ?_; (case q9k0 => decide +kernel); (case q9k1 => k_asm); (case q9k2 => k_asm); (case q9k3 => decide); (case q9k4 => decide +kernel); k_whole); intro z9D' z9vs' z9h' z9k' z9SA' z9ho' z9F' z9N' z9l1')
  k_with "compareOp In str ref" => (k_here; (with_reducible show wpAny _ _ (compareOp CmpOp.In (Value.str _ _) (Value.ref _)) _ _ _); k_dflt (refine' in_words ?q9k1 ?q9k2 ?q9k3 ?_; (case q9k1 => k_asm); (case q9k2 => with_reducible assumption); (case q9k3 => first | exact any_not (by with_reducible assumption) (by with_reducible assumption) | exact any_not5 (by decide +kernel) (by first | assumption | (rename (_ → _ ∉ flags5) => z9hF5; exact z9hF5 (by assumption))) | exact as_false (by decide +kernel) | exact as_true (by decide +kernel)); k_whole); intro z9N'; (try dsimp only at z9N'))
  k_with "compareOp In str ref" => (k_here; (with_reducible show wpAny _ _ (compareOp CmpOp.In (Value.str _ _) (Value.ref _)) _ _ _); k_dflt (refine' in_tup ?q9k1 ?q9k2 ?q9k3 ?_; (case q9k1 => k_asm); (case q9k2 => repeat constructor); (case q9k3 => first | assumption | exact as_false (by decide +kernel) | exact as_true (by decide +kernel)); k_whole); intro z9N'; (try dsimp only at z9N'))
  k_with "call ref" => ((with_reducible show wpAny _ _ (PySem.call (Value.ref 298) _) _ _ _); k_here; k_dflt (refine wpAny_call ?_; (walk_at "my enter")))
  k_with "call ref" => ((with_reducible show wpAny _ _ (PySem.call (Value.ref 305) _) _ _ _); k_here; k_dflt (refine wpAny_call ?_; (walk_at "my enter")))
  k_with "call ref" => ((with_reducible show wpAny _ _ (PySem.call (Value.ref 142) _) _ _ _); k_here; k_dflt (refine' flagname_seen ?q9kB ?q9kF ?q9kX ?q9kN ?q9kT ?q9kk ?q9kq ?q9kr ?q9ku ?_; (case q9kB => k_asm); (case q9kF => k_asm); (case q9kX => k_asm); (case q9kN => k_asm); (case q9kT => k_asm); (case q9kk => first | exact rfl | assumption); (case q9kq => decide +kernel); (case q9kr => ktr_room); (case q9ku => ktr_units); k_whole); (intro z9nx z9h' z9tk' z9t' z9F' z9N' z9hs'))
  trivial
theorem flagleaf_none {W : Str} {t : Tok} (hW : W.length ≤ 10000) (hO : NotOther W) (h5 : (Txt.slice W none (some 2) == Str.ofString "UN") = true → Txt.slice W (some 2) none ∉ flags5)
    (hA : ([Str.ofString "ALL", Str.ofString "OLD"].any fun x => x == W) = false) (hR : ([Str.ofString "RECENT", Str.ofString "NEW"].any fun x => x == W) = false)
    (hdp : dp + 8 < recursionLimit) (hun : un + 64 < cLine)
    (ret : ∀ nx h' tk', Fr h₀ L h' m → News h₀ L h' nx → (∀ p ∈ news, p ∈ nx) → Q .none { s with heap := h', toks := tk' }) :
    wpAny (model prog w) (ktrTop dp un gd cn cs L a ccd cl outer) (call (.ref 368) [.str W t]) Q E s := by
  refine wpAny_call ?_
  k_dflt (walk_at "my enter")
  k_steps
  all_goals exact ret _ _ _ (by k_asm) (by k_asm) (fun p hp => by (repeat (first | exact hp | refine List.Mem.tail _ ?_)))
theorem flagleaf_all {t : Tok}
    (hdp : dp + 8 < recursionLimit) (hun : un + 64 < cLine)
    (ret : ∀ T nx h' tk', Fr h₀ L h' m → News h₀ L h' nx → (∀ p ∈ news, p ∈ nx) → DatIn nx (.ref T) tAll → Q (.ref T) { s with heap := h', toks := tk' }) :
    wpAny (model prog w) (ktrTop dp un gd cn cs L a ccd cl outer) (call (.ref 368) [.str (Str.ofString "ALL") t]) Q E s := by
  refine wpAny_call ?_
  k_dflt (walk_at "my enter")
  k_steps
  exact ret _ _ _ _ (by k_asm) (by k_asm) (fun p hp => by (repeat (first | exact hp | refine List.Mem.tail _ ?_))) (.tuple (vs := [_]) (List.Mem.head _) (.cons (.str _ _) .nil))
theorem flagleaf_new {t : Tok}
    (hdp : dp + 8 < recursionLimit) (hun : un + 64 < cLine)
    (ret : ∀ T nx h' tk', Fr h₀ L h' m → News h₀ L h' nx → (∀ p ∈ news, p ∈ nx) → DatIn nx (.ref T) (tNot tAll) → Q (.ref T) { s with heap := h', toks := tk' }) :
    wpAny (model prog w) (ktrTop dp un gd cn cs L a ccd cl outer) (call (.ref 368) [.str (Str.ofString "NEW") t]) Q E s := by
  have hU : (Txt.slice (Str.ofString "NEW") none (some 2) == Str.ofString "UN") = false := by decide +kernel
  refine wpAny_call ?_
  k_dflt (walk_at "my enter")
  k_steps
  exact ret _ _ _ _ (by k_asm) (by k_asm) (fun p hp => by (repeat (first | exact hp | refine List.Mem.tail _ ?_))) (.tuple (vs := [_, _]) (List.Mem.head _) (.cons (.str _ _) (.cons (.tuple (vs := [_]) (List.Mem.tail _ (List.Mem.head _)) (.cons (.str _ _) .nil)) .nil)))
theorem flagleaf_un {t : Tok}
    (hdp : dp + 8 < recursionLimit) (hun : un + 64 < cLine)
    (ret : ∀ T nx h' tk', Fr h₀ L h' m → News h₀ L h' nx → (∀ p ∈ news, p ∈ nx) → DatIn nx (.ref T) (tNot tFlag) → Q (.ref T) { s with heap := h', toks := tk' }) :
    wpAny (model prog w) (ktrTop dp un gd cn cs L a ccd cl outer) (call (.ref 368) [.str (Str.ofString "UNSEEN") t]) Q E s := by
  have hU : (Txt.slice (Str.ofString "UNSEEN") none (some 2) == Str.ofString "UN") = true := by decide +kernel
  refine wpAny_call ?_
  k_dflt (walk_at "my enter")
  k_steps
  rename (∀ p ∈ _, p ∈ _) => hs
  exact ret _ _ _ _ (by k_asm) (by k_asm) (fun p hp => List.Mem.tail _ (List.Mem.tail _ (hs _ (by (repeat (first | exact hp | refine List.Mem.tail _ ?_)))))) (.tuple (vs := [_, _]) (List.Mem.head _) (.cons (.str _ _) (.cons (.tuple (vs := [_, _]) (List.Mem.tail _ (List.Mem.head _)) (.cons (.str _ _) (.cons (.str _ _) .nil))) .nil)))
end
end Mine
end
section
open PySem PySem.W PyProof.Rows
open Lean Elab Tactic Meta
set_option Elab.async false
set_option maxRecDepth 100000
set_option maxHeartbeats 8000000
namespace Mine
mutual
theorem DatIn.kept {h₀ h : Heap} {L d : Addr} {news nx : List (Addr × Obj)} {es : List DictEntry} {n : Nat} (N : News h₀ L h news) (hd : (d, dictOf es n) ∈ news) (hK : Kept d news nx) : ∀ {v : Value} {D : Dat}, DatIn news v D → DatIn nx v D
  | _, _, .none => .none
  | _, _, .bool b => .bool b
  | _, _, .int i t => .int i t
  | _, _, .str x t => .str x t
  | _, _, .bytes b t => .bytes b t
  | _, _, .tuple hm r => .tuple (hK _ hm (news_apart N hm hd (by intro e; cases e))) (DatAll.kept N hd hK r)
  | _, _, .list hm r => .list (hK _ hm (news_apart N hm hd (by intro e; cases e))) (DatAll.kept N hd hK r)
theorem DatAll.kept {h₀ h : Heap} {L d : Addr} {news nx : List (Addr × Obj)} {es : List DictEntry} {n : Nat} (N : News h₀ L h news) (hd : (d, dictOf es n) ∈ news) (hK : Kept d news nx) : ∀ {vs : List Value} {ds : List Dat}, DatAll news vs ds → DatAll nx vs ds
  | _, _, .nil => .nil
  | _, _, .cons q r => .cons (DatIn.kept N hd hK q) (DatAll.kept N hd hK r)
end
theorem Kept.sub {d : Addr} {l₁ l₂ l₃ : List (Addr × Obj)} (x : Kept d l₁ l₂) (y : ∀ p ∈ l₂, p ∈ l₃) : Kept d l₁ l₃ := fun q h n => y q (x q h n)
/-- a tree stands, whatever is done to the object at d -/
noncomputable def Stay (d : Addr) (nx : List (Addr × Obj)) (v : Value) (D : Dat) : Prop := ∀ l, Kept d nx l → DatIn l v D
theorem Stay.use {d : Addr} {nx l : List (Addr × Obj)} {v : Value} {D : Dat} (h : Stay d nx v D) (k : Kept d nx l) : DatIn l v D := h l k
theorem Stay.kept {d : Addr} {nx l : List (Addr × Obj)} {v : Value} {D : Dat} (h : Stay d nx v D) (k : Kept d nx l) : Stay d l v D := fun l' k' => h l' (k.trans k')
theorem Stay.of {h₀ h : Heap} {L d : Addr} {nx : List (Addr × Obj)} {es : List DictEntry} {n : Nat} {v : Value} {D : Dat} (N : News h₀ L h nx) (hd : (d, dictOf es n) ∈ nx) (q : DatIn nx v D) : Stay d nx v D := fun _ k => DatIn.kept N hd k q
/-- what a reader of keys does -/
structure Reader (prog : Program) (w : World) (fn : Addr) (ks : List Int) (pre : Nat → Prop) (key : Key) (dv : Int) (rd ru : Nat) : Prop where
  use : ∀ {mean : ExcName → Option Value} {mg mb : Str → Option Value} {dp un : Nat} {gd : Option (List Code)} {cn : Str} {cs : Scope} {a : Addr} {ccd : Value} {cl : List (Str × Addr)} {outer : List Env} {A₀ : Around} {base h₀ : Heap} {L : Addr} {m : Str → Option Value} {news : List (Addr × Obj)} {s : Shared}
    {Q E : Value → Shared → Prop}, Below A₀ base outer h₀ → Fr h₀ L s.heap m → (Mine.laid.heap_1 w.params).In h₀ → News h₀ L s.heap news → Top Mine.vw LL mean mg mb h₀ → cs.kind = .function →
    ∀ {x d : Addr} {h1 h2 : Int} {t1 t2 tb ta tc td : Tok} {b : Array UInt8} {at_ : Int} {n : Nat}, (x, instObj 665 d) ∈ news → (d, wdict h1 h2 t1 t2 tb ta b at_ n) ∈ news → KBw.bInts b = ks → 0 ≤ at_ → at_ ≤ ks.length → pre at_.toNat →
    (Mine.laid.heap_1 w.params).In base → Top Mine.vw LL mean mg mb base →
    dp + rd < recursionLimit → un + ru < cLine →
    (∀ D (j : Int), key at_.toNat = some (D, j.toNat) → at_ < j → j ≤ ks.length → ∀ T nx h' tk' ta', Fr h₀ L h' m → News h₀ L h' nx → Kept d news nx → (d, wdict h1 h2 t1 t2 tb ta' b j n) ∈ nx → Stay d nx (.ref T) D → Q (.ref T) { s with heap := h', toks := tk' }) →
    (key at_.toNat = none → ∀ C, C = 95 ∨ C = 119 → ∀ g e nx h' tk', Fr h₀ L g m → RaisedSN base g (envX cn cs L a ccd cl :: outer) e (.ref C) nx h' → g.UpToSlots h' → Kept d news nx → E (.ref e) { s with heap := h', toks := tk' }) →
    wpAny (model prog w) (ktrTop dp un gd cn cs L a ccd cl outer) (call (.ref fn) [.ref x, .str (Str.ofString "utf-8") tc, .int dv td]) Q E s
theorem reader_use {prog : Program} {w : World} {fn : Addr} {ks : List Int} {pre : Nat → Prop} {key : Key} {dv : Int} {rd ru : Nat} (h : Reader prog w fn ks pre key dv rd ru) :
  ∀ {mean : ExcName → Option Value} {mg mb : Str → Option Value} {dp un : Nat} {gd : Option (List Code)} {cn : Str} {cs : Scope} {a : Addr} {ccd : Value} {cl : List (Str × Addr)} {outer : List Env} {A₀ : Around} {base h₀ : Heap} {L : Addr} {m : Str → Option Value} {news : List (Addr × Obj)} {s : Shared}
    {Q E : Value → Shared → Prop}, Below A₀ base outer h₀ → Fr h₀ L s.heap m → (Mine.laid.heap_1 w.params).In h₀ → News h₀ L s.heap news → Top Mine.vw LL mean mg mb h₀ → cs.kind = .function →
    ∀ {x d : Addr} {h1 h2 : Int} {t1 t2 tb ta tc td : Tok} {b : Array UInt8} {at_ : Int} {n : Nat}, (x, instObj 665 d) ∈ news → (d, wdict h1 h2 t1 t2 tb ta b at_ n) ∈ news → KBw.bInts b = ks → 0 ≤ at_ → at_ ≤ ks.length → pre at_.toNat →
    (Mine.laid.heap_1 w.params).In base → Top Mine.vw LL mean mg mb base →
    dp + rd < recursionLimit → un + ru < cLine →
    (∀ D (j : Int), key at_.toNat = some (D, j.toNat) → at_ < j → j ≤ ks.length → ∀ T nx h' tk' ta', Fr h₀ L h' m → News h₀ L h' nx → Kept d news nx → (d, wdict h1 h2 t1 t2 tb ta' b j n) ∈ nx → Stay d nx (.ref T) D → Q (.ref T) { s with heap := h', toks := tk' }) →
    (key at_.toNat = none → ∀ C, C = 95 ∨ C = 119 → ∀ g e nx h' tk', Fr h₀ L g m → RaisedSN base g (envX cn cs L a ccd cl :: outer) e (.ref C) nx h' → g.UpToSlots h' → Kept d news nx → E (.ref e) { s with heap := h', toks := tk' }) →
    wpAny (model prog w) (ktrTop dp un gd cn cs L a ccd cl outer) (call (.ref fn) [.ref x, .str (Str.ofString "utf-8") tc, .int dv td]) Q E s := h.use
/-- what every text read obeys -/
structure TextOk (ks : List Int) : Prop where
  len : ks.length ≤ 10000
  lo : ∀ k ∈ ks, 0 ≤ k ∧ k < (128 : Int)
  no44 : ∀ k ∈ ks, k ≠ (44 : Int)
  good : Good ks
theorem pos_blank {ks : List Int} {x : Int} (h0 : 0 ≤ x) (h : pk ks x.toNat = 32) : Pos0 ks (x + 1).toNat := .inr (.inl (by rw [show (x + 1).toNat - 1 = x.toNat by omega]; exact h))
theorem pos_open {ks : List Int} {x : Int} (h0 : 0 ≤ x) (h : pk ks x.toNat = 40) : Pos0 ks (x + 1).toNat := .inr (.inr (by rw [show (x + 1).toNat - 1 = x.toNat by omega]; exact h))
theorem step_in {ks : List Int} {x c : Int} (h0 : 0 ≤ x) (h : pk ks x.toNat = c) (hc : c ≠ -1) : x + 1 ≤ ks.length := by
  have := pk_in (ks := ks) (i := x.toNat) (by rw [h]; exact hc)
  omega
theorem set_ne {ks : List Int} {i : Nat} (h : isS (pk ks i) = true) : took isS ks i ≠ [] := by
  have hi := pk_in (ks := ks) (i := i) (by intro q; rw [q] at h; exact absurd h (by decide))
  unfold took
  rw [List.drop_eq_getElem_cons hi, List.takeWhile_cons, if_pos]
  · simp
  · rw [pk_lt hi, List.getD_eq_getElem?_getD, List.getElem?_eq_getElem hi] at h
    exact h
end Mine
end
section
open PySem PySem.W PyProof.Rows
open Lean Elab Tactic Meta
set_option Elab.async false
set_option maxRecDepth 100000
set_option maxHeartbeats 8000000
namespace Mine
/-- what the law's own reader of keys does -/
structure LReader (prog : Program) (w : World) (fn : Addr) (ks : List Int) (key : Key) (dv : Int) (rd ru : Nat) : Prop where
  use : ∀ {mean : ExcName → Option Value} {mg mb : Str → Option Value} {dp un : Nat} {gd : Option (List Code)} {cn : Str} {cs : Scope} {a : Addr} {ccd : Value} {cl : List (Str × Addr)} {outer : List Env} {A₀ : Around} {base h₀ : Heap} {L : Addr} {m : Str → Option Value} {news : List (Addr × Obj)} {s : Shared}
    {Q E : Value → Shared → Prop}, Below A₀ base outer h₀ → Fr h₀ L s.heap m → (Mine.laid.heap_1 w.params).In h₀ → News h₀ L s.heap news → Top Mine.vw LL mean mg mb h₀ → cs.kind = .function →
    ∀ {tt ta td : Tok} {at_ : Int}, 0 ≤ at_ → at_ ≤ ks.length → dp + rd < recursionLimit → un + ru < cLine →
    (key at_.toNat = none → ∀ nx h' tk', Fr h₀ L h' m → News h₀ L h' nx → (∀ p ∈ news, p ∈ nx) → Q .none { s with heap := h', toks := tk' }) →
    (∀ D (j : Int), key at_.toNat = some (D, j.toNat) → at_ < j → j ≤ ks.length → ∀ R T tj nx h' tk', Fr h₀ L h' m → News h₀ L h' nx → (∀ p ∈ news, p ∈ nx) → (R, ({ cls := .type "tuple", data := .seq #[.ref T, .int j tj] } : Obj)) ∈ nx → DatIn nx (.ref T) D → Q (.ref R) { s with heap := h', toks := tk' }) →
    wpAny (model prog w) (ktrTop dp un gd cn cs L a ccd cl outer) (call (.ref fn) [.str (strOf ks) tt, .int at_ ta, .int dv td]) Q E s
theorem lreader_use {prog : Program} {w : World} {fn : Addr} {ks : List Int} {key : Key} {dv : Int} {rd ru : Nat} (h : LReader prog w fn ks key dv rd ru) :
  ∀ {mean : ExcName → Option Value} {mg mb : Str → Option Value} {dp un : Nat} {gd : Option (List Code)} {cn : Str} {cs : Scope} {a : Addr} {ccd : Value} {cl : List (Str × Addr)} {outer : List Env} {A₀ : Around} {base h₀ : Heap} {L : Addr} {m : Str → Option Value} {news : List (Addr × Obj)} {s : Shared}
    {Q E : Value → Shared → Prop}, Below A₀ base outer h₀ → Fr h₀ L s.heap m → (Mine.laid.heap_1 w.params).In h₀ → News h₀ L s.heap news → Top Mine.vw LL mean mg mb h₀ → cs.kind = .function →
    ∀ {tt ta td : Tok} {at_ : Int}, 0 ≤ at_ → at_ ≤ ks.length → dp + rd < recursionLimit → un + ru < cLine →
    (key at_.toNat = none → ∀ nx h' tk', Fr h₀ L h' m → News h₀ L h' nx → (∀ p ∈ news, p ∈ nx) → Q .none { s with heap := h', toks := tk' }) →
    (∀ D (j : Int), key at_.toNat = some (D, j.toNat) → at_ < j → j ≤ ks.length → ∀ R T tj nx h' tk', Fr h₀ L h' m → News h₀ L h' nx → (∀ p ∈ news, p ∈ nx) → (R, ({ cls := .type "tuple", data := .seq #[.ref T, .int j tj] } : Obj)) ∈ nx → DatIn nx (.ref T) D → Q (.ref R) { s with heap := h', toks := tk' }) →
    wpAny (model prog w) (ktrTop dp un gd cn cs L a ccd cl outer) (call (.ref fn) [.str (strOf ks) tt, .int at_ ta, .int dv td]) Q E s := h.use
theorem sl_pk {ks : List Int} {i c : Int} {X : Str} (hT : TextOk ks) (h0 : 0 ≤ i) (hX : X = strOf [c]) (hc : 0 ≤ c) : (Txt.slice (strOf ks) (some i) (some (i + 1)) == X) = decide (pk ks i.toNat = c) := slice_is hT.lo h0 hc hX
theorem sl_in {ks : List Int} {i : Int} {X : Str} (hT : TextOk ks) (h0 : 0 ≤ i) (h : (Txt.slice (strOf ks) (some i) (some (i + 1)) == X) = true) (hX : 0 < X.length := by decide) : i + 1 ≤ ks.length := by
  rw [beq_iff_eq, slice_one h0] at h
  by_cases q : i < ks.length
  · omega
  · rw [if_neg q] at h
    subst h
    exact absurd hX (by decide)
theorem sl_inn {ks : List Int} {i : Int} {X : Str} (hT : TextOk ks) (h0 : 0 ≤ i) (h : (Txt.slice (strOf ks) (some i) (some (i + 1)) != X) = false) (hX : 0 < X.length := by decide) : i + 1 ≤ ks.length := sl_in hT h0 (by simpa [bne] using h) hX
section
variable {ks : List Int} {i : Int} (hT : TextOk ks) (h0 : 0 ≤ i)
include hT h0
theorem sp_yes (h : (Txt.slice (strOf ks) (some i) (some (i + 1)) == Str.ofString " ") = true) : pk ks i.toNat = 32 := by
  rw [sl_pk (c := 32) hT h0 (by decide) (by decide)] at h; exact of_decide_eq_true h
theorem sp_no (h : (Txt.slice (strOf ks) (some i) (some (i + 1)) == Str.ofString " ") = false) : pk ks i.toNat ≠ 32 := by
  rw [sl_pk (c := 32) hT h0 (by decide) (by decide)] at h; exact of_decide_eq_false h
theorem sp_nyes (h : (Txt.slice (strOf ks) (some i) (some (i + 1)) != Str.ofString " ") = false) : pk ks i.toNat = 32 := sp_yes hT h0 (by simpa [bne] using h)
theorem sp_nno (h : (Txt.slice (strOf ks) (some i) (some (i + 1)) != Str.ofString " ") = true) : pk ks i.toNat ≠ 32 := sp_no hT h0 (by simpa [bne] using h)
theorem op_yes (h : (Txt.slice (strOf ks) (some i) (some (i + 1)) == Str.ofString "(") = true) : pk ks i.toNat = 40 := by
  rw [sl_pk (c := 40) hT h0 (by decide) (by decide)] at h; exact of_decide_eq_true h
theorem op_no (h : (Txt.slice (strOf ks) (some i) (some (i + 1)) == Str.ofString "(") = false) : pk ks i.toNat ≠ 40 := by
  rw [sl_pk (c := 40) hT h0 (by decide) (by decide)] at h; exact of_decide_eq_false h
theorem cl_nyes (h : (Txt.slice (strOf ks) (some i) (some (i + 1)) != Str.ofString ")") = false) : pk ks i.toNat = 41 := by
  rw [bne, sl_pk (c := 41) hT h0 (by decide) (by decide)] at h; exact of_decide_eq_true (by simpa using h)
theorem cl_nno (h : (Txt.slice (strOf ks) (some i) (some (i + 1)) != Str.ofString ")") = true) : pk ks i.toNat ≠ 41 := by
  rw [bne, sl_pk (c := 41) hT h0 (by decide) (by decide)] at h; exact of_decide_eq_false (by simpa using h)
end
theorem more_succ' {key : Key} {ks : List Int} {n : Nat} {D : Dat} {j : Nat} : moreP key ks (n + 1) D j = if pk ks j = 32 then (match key (j + 1) with | none => none | some r => moreP key ks n (tAnd D r.1) r.2) else some (D, j) := rfl
/-- the loop of the law's own row -/
noncomputable def LRow (ks : List Int) (key : Key) (i : Int) (m : Str → Option Value) (news : List (Addr × Obj)) (k : Nat) (m₁ : Str → Option Value) (nx : List (Addr × Obj)) : Prop :=
  ∃ (tv : Value) (mv : Option Value), (m₁ = fun y => if y = Str.ofString "told" then some tv else if y = Str.ofString "more" then mv else m y) ∧ (∀ p ∈ news, p ∈ nx) ∧
    ((tv = .none ∧ rowP key ks i.toNat = none ∧ k = 0) ∨
      ∃ (R T : Addr) (tj : Tok) (D : Dat) (j : Int) (fu : Nat), tv = .ref R ∧ (R, ({ cls := .type "tuple", data := .seq #[.ref T, .int j tj] } : Obj)) ∈ nx ∧ DatIn nx (.ref T) D ∧ rowP key ks i.toNat = moreP key ks fu D j.toNat ∧ ks.length + 1 ≤ fu + j.toNat ∧ 0 ≤ j ∧ j ≤ ks.length ∧ i < j ∧ k = ks.length - j.toNat + 1)
theorem lrow_start {ks : List Int} {key : Key} {D : Dat} {i j : Int} {m : Str → Option Value} {news nx : List (Addr × Obj)} {R T : Addr} {tj : Tok} (hm : m (Str.ofString "told") = some (.ref R)) (hs : ∀ p ∈ news, p ∈ nx) (hR : (R, ({ cls := .type "tuple", data := .seq #[.ref T, .int j tj] } : Obj)) ∈ nx) (hD : DatIn nx (.ref T) D)
    (hk : key i.toNat = some (D, j.toNat)) (h0 : 0 ≤ j) (hl : j ≤ ks.length) (hij : i < j) : LRow ks key i m news (ks.length - j.toNat + 1) m nx := by
  refine ⟨.ref R, m (Str.ofString "more"), ?_, hs, .inr ⟨R, T, tj, D, j, ks.length + 1, rfl, hR, hD, ?_, Nat.le_add_right _ _, h0, hl, hij, rfl⟩⟩
  · funext y
    split
    · rename_i h; rw [h]; exact hm
    · split
      · rename_i h; rw [h]
      · rfl
  · unfold rowP; rw [hk]
theorem lrow_map {mf m : Str → Option Value} {tv : Value} (hm : mf (Str.ofString "told") = some tv) (hm2 : ∀ y, y ≠ Str.ofString "told" → y ≠ Str.ofString "more" → mf y = m y) : mf = fun y => if y = Str.ofString "told" then some tv else if y = Str.ofString "more" then mf (Str.ofString "more") else m y := by
  funext y
  split
  · rename_i h; rw [h]; exact hm
  · rename_i h
    split
    · rename_i h; rw [h]
    · rename_i h'; exact hm2 y h h'
theorem lrow_none {g hh : Heap} {L : Addr} {s : Shared} {tk : Nat} {Q : Flow → Shared → Prop} {ks : List Int} {key : Key} {D : Dat} {i j : Int} {m mf : Str → Option Value} {news nx : List (Addr × Obj)} {fu : Nat}
    (F : Fr g L hh mf) (N : News g L hh nx) (hf : rowP key ks i.toNat = moreP key ks fu D j.toNat) (hfu : ks.length + 1 ≤ fu + j.toNat) (h0 : 0 ≤ j) (hl : j ≤ ks.length) (hb : pk ks j.toNat = 32) (hk : key (j + 1).toNat = none) (hs : ∀ p ∈ news, p ∈ nx)
    (hm : mf (Str.ofString "told") = some .none) (hm2 : ∀ y, y ≠ Str.ofString "told" → y ≠ Str.ofString "more" → mf y = m y) :
    WhileStep2 g L s (LRow ks key i m news) Q (ks.length - j.toNat + 1) .next { s with heap := hh, toks := tk } := by
  obtain ⟨fu, rfl⟩ : ∃ f, fu = f + 1 := ⟨fu - 1, by have := pk_in (ks := ks) (i := j.toNat) (by rw [hb]; decide); omega⟩
  refine ⟨_, _, _, _, 0, rfl, F, N, by omega, .none, mf (Str.ofString "more"), lrow_map hm hm2, hs, .inl ⟨rfl, ?_, rfl⟩⟩
  rw [hf, more_succ', if_pos hb, show j.toNat + 1 = (j + 1).toNat by omega, hk]
theorem lrow_step {g hh : Heap} {L : Addr} {s : Shared} {tk : Nat} {Q : Flow → Shared → Prop} {ks : List Int} {key : Key} {D D' : Dat} {i j j' : Int} {m mf : Str → Option Value} {news nx : List (Addr × Obj)} {fu : Nat} {R T : Addr} {tj : Tok}
    (F : Fr g L hh mf) (N : News g L hh nx) (hf : rowP key ks i.toNat = moreP key ks fu D j.toNat) (hfu : ks.length + 1 ≤ fu + j.toNat) (h0 : 0 ≤ j) (hl : j ≤ ks.length) (hij : i < j) (hb : pk ks j.toNat = 32) (hk : key (j + 1).toNat = some (D', j'.toNat)) (hj1 : j + 1 < j') (hj2 : j' ≤ ks.length) (hs : ∀ p ∈ news, p ∈ nx)
    (hR : (R, ({ cls := .type "tuple", data := .seq #[.ref T, .int j' tj] } : Obj)) ∈ nx) (hD : DatIn nx (.ref T) (tAnd D D'))
    (hm : mf (Str.ofString "told") = some (.ref R)) (hm2 : ∀ y, y ≠ Str.ofString "told" → y ≠ Str.ofString "more" → mf y = m y) :
    WhileStep2 g L s (LRow ks key i m news) Q (ks.length - j.toNat + 1) .next { s with heap := hh, toks := tk } := by
  have hlt := pk_in (ks := ks) (i := j.toNat) (by rw [hb]; decide)
  obtain ⟨fu, rfl⟩ : ∃ f, fu = f + 1 := ⟨fu - 1, by omega⟩
  refine ⟨_, _, _, _, ks.length - j'.toNat + 1, rfl, F, N, by omega, .ref R, mf (Str.ofString "more"), lrow_map hm hm2, hs, .inr ⟨R, T, tj, tAnd D D', j', fu, rfl, hR, hD, ?_, by omega, by omega, hj2, by omega, rfl⟩⟩
  rw [hf, more_succ', if_pos hb, show j.toNat + 1 = (j + 1).toNat by omega, hk]
theorem lrow_done {ks : List Int} {key : Key} {D : Dat} {i j : Int} {fu : Nat} (hf : rowP key ks i.toNat = moreP key ks fu D j.toNat) (hfu : ks.length + 1 ≤ fu + j.toNat) (h0 : 0 ≤ j) (hl : j ≤ ks.length) (hb : pk ks j.toNat ≠ 32) : rowP key ks i.toNat = some (D, j.toNat) := by
  obtain ⟨fu, rfl⟩ : ∃ f, fu = f + 1 := ⟨fu - 1, by omega⟩
  rw [hf, more_succ', if_neg hb]
theorem lrow_zero {ks : List Int} {key : Key} {i : Int} (h : key i.toNat = none) : rowP key ks i.toNat = none := by unfold rowP; rw [h]
noncomputable def LOnce (news : List (Addr × Obj)) (mm : Str → Option Value) (k : Nat) (m₁ : Str → Option Value) (nx : List (Addr × Obj)) : Prop := news = nx ∧ m₁ = mm ∧ k = 0
theorem walkWords18 : True := by
  w_top off
  k_with_none
  k_with "my enter" => ((refine' code_def ?q9k1 ?q9k2 ?q9k3 ?q9k4 ?q9k5 ?q9kA ?q9kF ?q9kK ?q9k6 ?q9k7 ?q9k8 ?q9k9 ?q9kB ?_ ?q9c2 ?q9c3 ?q9c4 ?q9c5; (case q9kA => exact rfl); (case q9kF => exact rfl); (case q9kK => first | exact rfl | assumption); (case q9k1 => k_asm); (case q9k2 => k_asm); (case q9k3 => k_asm); (case q9k4 => k_asm); (case q9k5 => k_asm); (case q9k6 => k_is); (case q9k7 => k_is); (case q9k8 => ktr_room); (case q9k9 => first | exact binds_K (by k_in) rfl (by k_is) rfl rfl rfl | exact BindsTo.of_eq rfl); (case q9c5 => decide); (case q9kB => exact locs rfl); (case q9c2 => exact rfl); (case q9c3 => exact rfl); (case q9c4 => exact rfl); k_whole; intro z9g' z9L' z9h' z9FG' z9F' z9N' z9B' z9X' z9T'; (try dsimp only); (try k_fold)))
  k_with "mem up" => (repeat (first | with_reducible assumption | exact List.mem_cons_self | refine List.mem_cons_of_mem _ ?_))
  k_with "dat sub" => (repeat (first | with_reducible assumption | refine DatIn.mono (fun p hp => List.mem_cons_of_mem _ hp) ?_ | refine DatIn.mono (by with_reducible assumption : ∀ p ∈ _, p ∈ _) ?_))
  k_with "sub up" => (repeat (first | with_reducible assumption | refine List.mem_cons_of_mem _ ?_ | (refine (by with_reducible assumption : ∀ p ∈ _, p ∈ _) _ ?_)))
  k_with "call ref" => ((with_reducible show wpAny _ _ (PySem.call (Value.ref 689) _) _ _ _); k_here; k_dflt (refine' lreader_use ?q9kH ?q9kB ?q9kF ?q9kX ?q9kN ?q9kT ?q9kk ?q9k0 ?q9kl ?q9kr ?q9ku ?_ ?_; (case q9kH => assumption); (case q9kB => k_asm); (case q9kF => k_asm); (case q9kX => k_asm); (case q9kN => k_asm); (case q9kT => k_asm); (case q9kk => first | exact rfl | assumption); (case q9k0 => first | assumption | omega); (case q9kl => first | assumption | omega | exact sl_in (by assumption) (by omega) (by assumption) | exact sl_inn (by assumption) (by omega) (by assumption)); (case q9kr => ktr_room); (case q9ku => ktr_units); k_whole); (intro z9hc z9nx z9h' z9tk' z9F' z9N' z9hs'); rotate_left; (intro z9D z9j z9hc z9hj1 z9hj2 z9R z9T z9tj z9nx z9h' z9tk' z9F' z9N' z9hs' z9hR' z9hD'; (try (k_dflt (have z9hRx' := z9hs' (_, ({ cls := .type "tuple", data := .seq #[.ref _, .int _ _] } : Obj)) (by first | assumption | (walk_at "mem up"; done)))))); rotate_left)
  k_with "subscriptTail" => (k_here; (with_reducible show wpAny _ _ (subscriptTail _ _ (Value.ref _) (Value.int _ _)) _ _ _); k_dflt (refine' item_tupleT (l := [Value.ref _, Value.int _ _]) (News.isTup ?q9N ?q9m) ?q9a ?q9b ?q9c ?q9d ?_ ?q9e; (case q9N => k_asm); (case q9m => first | assumption | (walk_at "mem up"; done)); (case q9a => decide); (case q9b => decide); (case q9c => exact rfl); (case q9d => exact rfl); (case q9e => with_unfolding_all rfl); k_whole))
  trivial
theorem lrow_spec {prog : Program} {w : World} {ks : List Int} {key : Key} {dv : Int} {rd ru : Nat} (hT : TextOk ks) (hK : LReader prog w 689 ks key dv rd ru) (hrd : 4 ≤ rd) (hru : 64 ≤ ru) :
    LReader prog w 696 ks (rowP key ks) dv (rd + 1) (ru + 8) := by
  constructor
  intro mean mg mb dp un gd cn cs a ccd cl outer A₀ base h₀ L m news s Q E B F X N T hk tt ta td at_ h0 hl hdp hun none some
  have hlen := hT.len
  have hsl := strOf_length (ks := ks)
  refine wpAny_call ?_
  k_dflt (walk_at "my enter")
  k_with "exec While" => first
    | (k_here; (rename Fr _ _ _ _ => hFw); (rename News _ _ _ _ => hNw); (rename DatIn _ _ _ => hDw); (rename (∀ p ∈ news, p ∈ _) => hsw); (rename _ = Option.some (_, Int.toNat _) => hcw); k_dflt (refine' While_J (fun mm => LRow ks key at_ mm news) hFw hNw (lrow_start (by rfl) hsw (by assumption) hDw hcw (by omega) (by assumption) (by assumption)) ?_ (by passes_own); k_whole; clear hFw hNw hDw hsw; rintro kk mm nx hh1 tk1 F1 N1 ⟨tv, mv, rfl, hs1, ⟨rfl, hz1, rfl⟩ | ⟨R1, T1, tj1, D1, j1, fu1, rfl, hR1, hD1, hf1, hfu1, hj10, hj1l, hij1, rfl⟩⟩))
    | (k_here; (rename Fr _ _ _ _ => hFw); (rename News _ _ _ _ => hNw); k_dflt (refine' While_J (fun mm => LOnce _ mm) hFw hNw ⟨rfl, rfl, rfl⟩ ?_ (by passes_own); k_whole; clear hFw hNw; rintro kk mm nx hh1 tk1 F1 N1 ⟨rfl, rfl, rfl⟩))
  k_steps
  all_goals first
    | exact none (by assumption) _ _ _ (by k_asm) (by k_asm) (fun q hq => by walk_at "sub up")
    | exact none (lrow_zero (by assumption)) _ _ _ (by k_asm) (by k_asm) (fun q hq => by walk_at "sub up")
    | exact some _ _ (lrow_done hf1 hfu1 hj10 hj1l (sp_no hT hj10 (by assumption))) hij1 hj1l _ _ _ _ _ _ (by k_asm) (by k_asm) (fun q hq => by walk_at "sub up") (by assumption) (by assumption)
    | exact lrow_none (by k_asm) (by k_asm) hf1 hfu1 hj10 hj1l (sp_yes hT hj10 (by assumption)) (by assumption) (fun q hq => by walk_at "sub up") (by rfl) (by intro y q1 q2; simp only [if_neg q1, if_neg q2])
    | exact lrow_step (by k_asm) (by k_asm) hf1 hfu1 hj10 hj1l hij1 (sp_yes hT hj10 (by assumption)) (by assumption) (by assumption) (by assumption) (fun q hq => by walk_at "sub up") (by walk_at "mem up") (.tuple (vs := [_, _, _]) (by walk_at "mem up") (.cons (.str _ _) (.cons (by walk_at "dat sub") (.cons (by walk_at "dat sub") .nil)))) (by rfl) (by intro y q1 q2; simp only [if_neg q1, if_neg q2])
end Mine
end
section
open PySem PySem.W PyProof.Rows
open Lean Elab Tactic Meta
set_option Elab.async false
set_option maxRecDepth 100000
set_option maxHeartbeats 8000000
namespace Mine
section
variable {prog : Program} {w : World} {mean : ExcName → Option Value} {mg mb : Str → Option Value}
    {dp un : Nat} {gd : Option (List Code)} {cn : Str} {cs : Scope} {a : Addr} {ccd : Value} {cl : List (Str × Addr)} {outer : List Env} {A₀ : Around} {base h₀ : Heap} {L : Addr} {m : Str → Option Value} {news : List (Addr × Obj)} {s : Shared}
    {Q E : Value → Shared → Prop}
    (B : Below A₀ base outer h₀) (F : Fr h₀ L s.heap m) (X : (Mine.laid.heap_1 w.params).In h₀) (N : News h₀ L s.heap news) (T : Top Mine.vw LL mean mg mb h₀) (hk : cs.kind = .function)
include B F X N T hk
variable {x d : Addr} {h1 h2 : Int} {t1 t2 tb ta : Tok} {b : Array UInt8} {ks : List Int} {at_ : Int} {n : Nat}
    (hx : (x, instObj 665 d) ∈ news) (hd : (d, wdict h1 h2 t1 t2 tb ta b at_ n) ∈ news) (hb : KBw.bInts b = ks) (hlen : ks.length ≤ 10000) (h0 : 0 ≤ at_) (hl : at_ ≤ ks.length)
include hx hd hb hlen h0 hl
theorem skip_yes {c : UInt8} {to : Tok} (hc : pk ks at_.toNat = (c.toNat : Int))
    (hdp : dp + 2 < recursionLimit) (hun : un + 16 < cLine)
    (yes : ∀ nx h' tk' ta', Fr h₀ L h' m → News h₀ L h' nx → Kept d news nx → (d, wdict h1 h2 t1 t2 tb ta' b (at_ + 1) n) ∈ nx → Q (.bool true) { s with heap := h', toks := tk' }) :
    wpAny (model prog w) (ktrTop dp un gd cn cs L a ccd cl outer) (call (.ref 516) [.ref x, .bytes #[c] to]) Q E s :=
  skip_spec B F X N T hk hx hd hb hlen h0 hl hdp hun (fun _ => yes) fun h => absurd hc h
end
/-- a bracketed row -/
noncomputable def brkP (key : Key) (ks : List Int) (i : Nat) : Option (Dat × Nat) := match rowP key ks (i + 1) with | none => none | some r => if pk ks r.2 = 41 then some (r.1, r.2 + 1) else none
theorem brk_some {key : Key} {ks : List Int} {i j : Int} {D : Dat} (h0 : 0 ≤ i) (h : rowP key ks (i + 1).toNat = some (D, j.toNat)) (hj : 0 ≤ j) (h41 : pk ks j.toNat = 41) : brkP key ks i.toNat = some (D, (j + 1).toNat) := by
  unfold brkP
  rw [show i.toNat + 1 = (i + 1).toNat by omega, h]
  dsimp only
  rw [if_pos h41, show (j + 1).toNat = j.toNat + 1 by omega]
theorem brk_not {key : Key} {ks : List Int} {i j : Int} {D : Dat} (h0 : 0 ≤ i) (h : rowP key ks (i + 1).toNat = some (D, j.toNat)) (h41 : pk ks j.toNat ≠ 41) : brkP key ks i.toNat = none := by
  unfold brkP
  rw [show i.toNat + 1 = (i + 1).toNat by omega, h]
  dsimp only
  rw [if_neg h41]
theorem brk_none {key : Key} {ks : List Int} {i : Int} (h0 : 0 ≤ i) (h : rowP key ks (i + 1).toNat = none) : brkP key ks i.toNat = none := by
  unfold brkP
  rw [show i.toNat + 1 = (i + 1).toNat by omega, h]
theorem walkWords19 : True := by
  w_top off
  k_with_none
  k_with "my enter" => ((refine' code_def ?q9k1 ?q9k2 ?q9k3 ?q9k4 ?q9k5 ?q9kA ?q9kF ?q9kK ?q9k6 ?q9k7 ?q9k8 ?q9k9 ?q9kB ?_ ?q9c2 ?q9c3 ?q9c4 ?q9c5; (case q9kA => exact rfl); (case q9kF => exact rfl); (case q9kK => first | exact rfl | assumption); (case q9k1 => k_asm); (case q9k2 => k_asm); (case q9k3 => k_asm); (case q9k4 => k_asm); (case q9k5 => k_asm); (case q9k6 => k_is); (case q9k7 => k_is); (case q9k8 => ktr_room); (case q9k9 => first | exact binds_K (by k_in) rfl (by k_is) rfl rfl rfl | exact BindsTo.of_eq rfl); (case q9c5 => decide); (case q9kB => exact locs rfl); (case q9c2 => exact rfl); (case q9c3 => exact rfl); (case q9c4 => exact rfl); k_whole; intro z9g' z9L' z9h' z9FG' z9F' z9N' z9B' z9X' z9T'; (try dsimp only); (try k_fold)))
  k_with "kept up" => (repeat (first | exact Kept.refl _ _ | with_reducible assumption | refine Kept.cons ?_ _ | refine Kept.trans ?_ (by with_reducible assumption) | refine Kept.sub ?_ (by with_reducible assumption)))
  k_with "dat up" => first | with_reducible assumption | (refine Stay.use (by with_reducible assumption) ?_; (repeat (first | exact Kept.refl _ _ | with_reducible assumption | refine Kept.cons ?_ _ | refine Kept.trans ?_ (by with_reducible assumption) | refine Kept.sub ?_ (by with_reducible assumption))))
  k_with "stay up" => first | with_reducible assumption | (refine Stay.kept (by with_reducible assumption) ?_; (repeat (first | exact Kept.refl _ _ | with_reducible assumption | refine Kept.cons ?_ _ | refine Kept.trans ?_ (by with_reducible assumption) | refine Kept.sub ?_ (by with_reducible assumption))))
  k_with "mem up" => (repeat (first | with_reducible assumption | refine List.mem_cons_of_mem _ ?_))
  k_with "setAttr ref" => (k_here; (with_reducible show wpAny _ _ (setAttr (Value.ref _) (PySem.Str.ofString "at") (Value.int _ _)) _ _ _); k_dflt (refine' setW_at ?q9F ?q9X ?q9N ?q9x ?q9d ?_; (case q9F => k_asm); (case q9X => k_asm); (case q9N => k_asm); (case q9x => k_mem); (case q9d => k_mem); k_whole); intro z9h' z9F' z9N')
  k_with "call ref" => ((with_reducible show wpAny _ _ (PySem.call (Value.ref 502) _) _ _ _); k_here; k_dflt (refine wpAny_call ?_; (walk_at "my enter")))
  k_with "call ref" => ((with_reducible show wpAny _ _ (PySem.call (Value.ref 95) _) _ _ _); k_here; k_dflt (refine' mk_exc ?q9kB ?q9kF ?q9kX ?q9kN ?q9kT ?q9kk ?q9kc ?q9kc2 ?q9q1 ?q9q2 ?q9q3 ?q9q4 ?q9kr ?q9ku ?_; (case q9kB => k_asm); (case q9kF => k_asm); (case q9kX => k_asm); (case q9kN => k_asm); (case q9kT => k_asm); (case q9kk => first | exact rfl | assumption); (case q9kc => kernel_rfl); (case q9kc2 => kernel_rfl); (case q9q1 => k_is); (case q9q2 => k_is); (case q9q3 => k_is); (case q9q4 => k_is); (case q9kr => ktr_room); (case q9ku => ktr_units); k_whole); (intro z9e z9t z9dd z9k1 z9k2 z9t1 z9t2 z9h' z9tk' z9F' z9N' z9hne z9hlt))
  k_with "call ref" => ((with_reducible show wpAny _ _ (PySem.call (Value.ref 119) _) _ _ _); k_here; k_dflt (refine' mk_exc ?q9kB ?q9kF ?q9kX ?q9kN ?q9kT ?q9kk ?q9kc ?q9kc2 ?q9q1 ?q9q2 ?q9q3 ?q9q4 ?q9kr ?q9ku ?_; (case q9kB => k_asm); (case q9kF => k_asm); (case q9kX => k_asm); (case q9kN => k_asm); (case q9kT => k_asm); (case q9kk => first | exact rfl | assumption); (case q9kc => kernel_rfl); (case q9kc2 => kernel_rfl); (case q9q1 => k_is); (case q9q2 => k_is); (case q9q3 => k_is); (case q9q4 => k_is); (case q9kr => ktr_room); (case q9ku => ktr_units); k_whole); (intro z9e z9t z9dd z9k1 z9k2 z9t1 z9t2 z9h' z9tk' z9F' z9N' z9hne z9hlt))
  k_with "exec Raise some none" => (k_here; k_dflt (refine' RaiseX ?q9hh ?_; (case q9hh => exact rfl); k_whole))
  k_with "RaisableX" => (k_here; k_dflt (refine' ⟨_, _, _, _, rfl, News.get ?q9N ?q9m, xcls_of (K := Mine.laid.heap_1 _) (Frag.In.keeps ?q9X (Fr.keep ?q9F)) ?q9q, ?_⟩; (case q9F => k_asm); (case q9N => k_asm); (case q9m => k_mem); (case q9X => k_asm); (case q9q => kernel_rfl); k_whole))
  k_with "leaving ref" => (k_here; k_dflt (first
  | (refine' leave_own (ctx := Value.none) ?q9K ?q9F ?q9N ?q9ne ?_ ?q9hk; (case q9F => k_asm); (case q9N => k_asm); (case q9K => k_asm); (case q9ne => assumption); (case q9hk => exact rfl); k_whole; intro z9h' z9R' z9Th' z9U')
  | (refine' leave_thrown ?q9K ?q9F ?q9R ?q9U ?_; (case q9R => assumption); (case q9F => assumption); (case q9K => k_asm); (case q9U => assumption); k_whole; intro z9h' z9Th' z9U')
  | (refine' leave_onSN ?q9K ?q9F ?q9R ?q9U ?_; (case q9R => assumption); (case q9F => assumption); (case q9K => k_asm); (case q9U => assumption); k_whole; intro z9h' z9R' _ z9U')))
  k_with "call ref" => ((with_reducible show wpAny _ _ (PySem.call (Value.ref 509) _) _ _ _); k_here; k_dflt (refine' peek_spec ?q9kB ?q9kF ?q9kX ?q9kN ?q9kT ?q9kk ?q9kx ?q9kd ?q9kb ?q9ke ?q9k0 ?q9kl ?q9kr ?q9ku ?_; (case q9kB => k_asm); (case q9kF => k_asm); (case q9kX => k_asm); (case q9kN => k_asm); (case q9kT => k_asm); (case q9kk => first | exact rfl | assumption); (case q9kx => first | k_mem | assumption); (case q9kd => first | k_mem | assumption); (case q9kb => assumption); (case q9ke => assumption); (case q9k0 => first | assumption | omega); (case q9kl => first | assumption | omega); (case q9kr => ktr_room); (case q9ku => ktr_units); k_whole); (intro z9h' z9tk' z9tv z9F' z9N'))
  k_with "call ref" => ((with_reducible show wpAny _ _ (PySem.call (Value.ref 516) _) _ _ _); k_here; k_dflt (refine' skip_spec ?q9kB ?q9kF ?q9kX ?q9kN ?q9kT ?q9kk ?q9kx ?q9kd ?q9kb ?q9ke ?q9k0 ?q9kl ?q9kr ?q9ku ?_ ?_; (case q9kB => k_asm); (case q9kF => k_asm); (case q9kX => k_asm); (case q9kN => k_asm); (case q9kT => k_asm); (case q9kk => first | exact rfl | assumption); (case q9kx => first | k_mem | assumption); (case q9kd => first | k_mem | assumption); (case q9kb => assumption); (case q9ke => assumption); (case q9k0 => first | assumption | omega); (case q9kl => first | assumption | omega); (case q9kr => ktr_room); (case q9ku => ktr_units); k_whole); (intro z9hc z9nx z9h' z9tk' z9ta' z9F' z9N' z9hK' z9hd'; (try (k_dflt (have z9hx' := z9hK' (_, instObj 665 _) (by first | assumption | k_mem) (by first | assumption | k_ne))))); rotate_left; (intro z9hc z9h' z9tk' z9F' z9N'); rotate_left)
  k_with "call ref" => ((with_reducible show wpAny _ _ (PySem.call (Value.ref 516) [_, Value.bytes #[40] _]) _ _ _); k_here; k_dflt (refine' skip_yes ?q9kB ?q9kF ?q9kX ?q9kN ?q9kT ?q9kk ?q9kx ?q9kd ?q9kb ?q9ke ?q9k0 ?q9kl ?q9kc ?q9kr ?q9ku ?_; (case q9kB => k_asm); (case q9kF => k_asm); (case q9kX => k_asm); (case q9kN => k_asm); (case q9kT => k_asm); (case q9kk => first | exact rfl | assumption); (case q9kx => first | k_mem | assumption); (case q9kd => first | k_mem | assumption); (case q9kb => assumption); (case q9ke => assumption); (case q9k0 => first | assumption | omega); (case q9kl => first | assumption | omega); (case q9kc => assumption); (case q9kr => ktr_room); (case q9ku => ktr_units); k_whole); (intro z9nx z9h' z9tk' z9ta' z9F' z9N' z9hK' z9hd'; (try (k_dflt (have z9hx' := z9hK' (_, instObj 665 _) (by first | assumption | k_mem) (by first | assumption | k_ne))))))
  k_with "call ref" => ((with_reducible show wpAny _ _ (PySem.call (Value.ref 530) _) _ _ _); k_here; k_dflt (refine' space_spec ?q9kB ?q9kF ?q9kX ?q9kN ?q9kT ?q9kk ?q9kx ?q9kd ?q9kb ?q9ke ?q9k0 ?q9kl ?q9kr ?q9ku ?_ ?_; (case q9kB => k_asm); (case q9kF => k_asm); (case q9kX => k_asm); (case q9kN => k_asm); (case q9kT => k_asm); (case q9kk => first | exact rfl | assumption); (case q9kx => first | k_mem | assumption); (case q9kd => first | k_mem | assumption); (case q9kb => assumption); (case q9ke => assumption); (case q9k0 => first | assumption | omega); (case q9kl => first | assumption | omega); (case q9kr => ktr_room); (case q9ku => ktr_units); k_whole); (intro z9hc z9nx z9h' z9tk' z9ta' z9F' z9N' z9hK' z9hd'; (try (k_dflt (have z9hx' := z9hK' (_, instObj 665 _) (by first | assumption | k_mem) (by first | assumption | k_ne))))); rotate_left; (intro z9hc z9g z9e z9nx z9h' z9tk' z9FG' z9R' z9U' z9hK'); rotate_left)
  k_with "call ref" => ((with_reducible show wpAny _ _ (PySem.call (Value.ref 403) _) _ _ _); k_here; k_dflt (refine' reader_use ?q9kH ?q9kB ?q9kF ?q9kX ?q9kN ?q9kT ?q9kk ?q9kx ?q9kd ?q9kb ?q9k0 ?q9kl ?q9kp ?q9kXB ?q9kTB ?q9kr ?q9ku ?_ ?_; (case q9kH => assumption); (case q9kB => k_asm); (case q9kF => k_asm); (case q9kX => k_asm); (case q9kN => k_asm); (case q9kT => k_asm); (case q9kk => first | exact rfl | assumption); (case q9kx => first | k_mem | assumption); (case q9kd => first | k_mem | assumption); (case q9kb => assumption); (case q9k0 => first | assumption | omega); (case q9kl => first | assumption | omega | exact step_in (by omega) (by assumption) (by decide)); (case q9kp => first | assumption | exact pos_blank (by omega) (by assumption) | exact pos_open (by omega) (by assumption)); (case q9kXB => assumption); (case q9kTB => assumption); (case q9kr => ktr_room); (case q9ku => ktr_units); k_whole); (intro z9D z9j z9hc z9hj1 z9hj2 z9T z9nx z9h' z9tk' z9ta' z9F' z9N' z9hK' z9hd' z9hD'; (try (k_dflt (have z9hx' := z9hK' (_, instObj 665 _) (by first | assumption | k_mem) (by first | assumption | k_ne))))); rotate_left; (intro z9hc z9C z9hC z9g z9e z9nx z9h' z9tk' z9FG' z9R' z9U' z9hK'); rotate_left)
  trivial
theorem brk_spec {prog : Program} {w : World} {ks : List Int} {key : Key} {dv : Int} {rd ru : Nat} (hT : TextOk ks) (hR : Reader prog w 403 ks (Pos0 ks) (rowP key ks) (dv + 1) rd ru) (hrd : 12 ≤ rd) (hru : 64 ≤ ru) (hdv : 0 ≤ dv) (hdv2 : dv ≤ 1000) :
    Reader prog w 389 ks (fun i => pk ks i = 40) (brkP key ks) dv (rd + 1) (ru + 8) := by
  constructor
  intro mean mg mb dp un gd cn cs a ccd cl outer A₀ base h₀ L m news s Q E B F X N T hk x d h1 h2 t1 t2 tb ta tc td b at_ n hx hd hb h0 hl h40 XB TB hdp hun ret exc
  have hxd : x ≠ d := inst_apart N hx hd
  have hlen := hT.len
  have h40 : pk ks at_.toNat = 40 := h40
  refine wpAny_call ?_
  k_dflt (walk_at "my enter")
  k_steps
  all_goals first
    | (rename (_ = 95 ∨ _ = 119) => hC; exact exc (brk_none h0 (by assumption)) _ hC _ _ _ _ _ (by assumption) (by assumption) (by assumption) (by walk_at "kept up"))
    | exact exc (brk_not h0 (by assumption) (by assumption)) _ (.inr rfl) _ _ _ _ _ (by assumption) (by assumption) (by assumption) (by walk_at "kept up")
    | exact ret _ _ (brk_some h0 (by assumption) (by omega) (by assumption)) (by omega) (step_in (by omega) (by assumption) (by decide)) _ _ _ _ _ (by k_asm) (by k_asm) (by walk_at "kept up") (by walk_at "mem up") (by walk_at "stay up")
end Mine
end
section
open PySem PySem.W PyProof.Rows
open Lean Elab Tactic Meta
set_option Elab.async false
set_option maxRecDepth 100000
set_option maxHeartbeats 8000000
namespace Mine
theorem more_succ {key : Key} {ks : List Int} {n : Nat} {D : Dat} {j : Nat} : moreP key ks (n + 1) D j = if pk ks j = 32 then (match key (j + 1) with | none => none | some r => moreP key ks n (tAnd D r.1) r.2) else some (D, j) := rfl
/-- the loop of a row -/
noncomputable def JRow (ks : List Int) (key : Key) (D0 : Dat) (j0 : Int) (m : Str → Option Value) (news : List (Addr × Obj)) (d : Addr) (h1 h2 : Int) (t1 t2 tb : Tok) (b : Array UInt8) (n : Nat) (k : Nat) (m₁ : Str → Option Value) (nx : List (Addr × Obj)) : Prop :=
  ∃ (T : Addr) (D : Dat) (j : Int) (ta' : Tok) (fu : Nat), (m₁ = fun y => if y = Str.ofString "tree" then some (Value.ref T) else m y) ∧ moreP key ks fu D j.toNat = moreP key ks (ks.length + 1) D0 j0.toNat ∧ ks.length + 1 ≤ fu + j.toNat ∧ 0 ≤ j ∧ j ≤ ks.length ∧ j0 ≤ j ∧
    Kept d news nx ∧ (d, wdict h1 h2 t1 t2 tb ta' b j n) ∈ nx ∧ Stay d nx (.ref T) D ∧ k = ks.length - j.toNat
theorem jrow_start {ks : List Int} {key : Key} {D0 : Dat} {j0 : Int} {m : Str → Option Value} {news nx : List (Addr × Obj)} {d : Addr} {h1 h2 : Int} {t1 t2 tb ta' : Tok} {b : Array UInt8} {n : Nat} {T : Addr}
    (hm : m (Str.ofString "tree") = some (.ref T)) (h0 : 0 ≤ j0) (hl : j0 ≤ ks.length) (hd : (d, wdict h1 h2 t1 t2 tb ta' b j0 n) ∈ nx) (hK : Kept d news nx) (hD : Stay d nx (.ref T) D0) :
    JRow ks key D0 j0 m news d h1 h2 t1 t2 tb b n (ks.length - j0.toNat) m nx := by
  refine ⟨T, D0, j0, ta', _, ?_, rfl, Nat.le_add_right _ _, h0, hl, Int.le_refl _, hK, hd, hD, rfl⟩
  funext y
  split
  · rename_i h; rw [h]; exact hm
  · rfl
theorem jrow_step {g hh : Heap} {L : Addr} {s : Shared} {tk : Nat} {Q : Flow → Shared → Prop} {ks : List Int} {key : Key} {D0 D D' : Dat} {j0 j j' : Int} {m mf : Str → Option Value} {news nx : List (Addr × Obj)} {d : Addr} {h1 h2 : Int} {t1 t2 tb ta' : Tok} {b : Array UInt8} {n fu : Nat} {T : Addr}
    (F : Fr g L hh mf) (N : News g L hh nx) (hf : moreP key ks fu D j.toNat = moreP key ks (ks.length + 1) D0 j0.toNat) (hfu : ks.length + 1 ≤ fu + j.toNat) (h0 : 0 ≤ j) (hl : j ≤ ks.length) (hjj : j0 ≤ j)
    (hb : pk ks j.toNat = 32) (hk : key (j + 1).toNat = some (D', j'.toNat)) (hj1 : j + 1 < j') (hj2 : j' ≤ ks.length) (hK : Kept d news nx) (hd : (d, wdict h1 h2 t1 t2 tb ta' b j' n) ∈ nx) (hD : Stay d nx (.ref T) (tAnd D D'))
    (hm : mf (Str.ofString "tree") = some (.ref T)) (hm2 : ∀ y, y ≠ Str.ofString "tree" → mf y = m y) :
    WhileStep2 g L s (JRow ks key D0 j0 m news d h1 h2 t1 t2 tb b n) Q (ks.length - j.toNat) .next { s with heap := hh, toks := tk } := by
  have hlt := pk_in (ks := ks) (i := j.toNat) (by rw [hb]; decide)
  obtain ⟨fu, rfl⟩ : ∃ f, fu = f + 1 := ⟨fu - 1, by omega⟩
  refine ⟨_, _, _, _, ks.length - j'.toNat, rfl, F, N, by omega, T, tAnd D D', j', ta', fu, ?_, ?_, by omega, by omega, hj2, by omega, hK, hd, hD, rfl⟩
  · funext y
    split
    · rename_i h; rw [h]; exact hm
    · rename_i h; exact hm2 y h
  · rw [← hf]
    rw [more_succ, if_pos hb, show j.toNat + 1 = (j + 1).toNat by omega, hk]
theorem jrow_done {ks : List Int} {key : Key} {D0 D : Dat} {i j0 j : Int} {fu : Nat} (h1 : key i.toNat = some (D0, j0.toNat)) (hf : moreP key ks fu D j.toNat = moreP key ks (ks.length + 1) D0 j0.toNat) (hfu : ks.length + 1 ≤ fu + j.toNat) (h0 : 0 ≤ j) (hl : j ≤ ks.length) (hb : pk ks j.toNat ≠ 32) :
    rowP key ks i.toNat = some (D, j.toNat) := by
  obtain ⟨fu, rfl⟩ : ∃ f, fu = f + 1 := ⟨fu - 1, by omega⟩
  unfold rowP
  rw [h1]
  show moreP key ks (ks.length + 1) D0 j0.toNat = _
  rw [← hf]
  rw [more_succ, if_neg hb]
theorem jrow_none {ks : List Int} {key : Key} {D0 D : Dat} {i j0 j : Int} {fu : Nat} (h1 : key i.toNat = some (D0, j0.toNat)) (hf : moreP key ks fu D j.toNat = moreP key ks (ks.length + 1) D0 j0.toNat) (hfu : ks.length + 1 ≤ fu + j.toNat) (h0 : 0 ≤ j) (hl : j ≤ ks.length) (hb : pk ks j.toNat = 32) (hk : key (j + 1).toNat = none) :
    rowP key ks i.toNat = none := by
  obtain ⟨fu, rfl⟩ : ∃ f, fu = f + 1 := ⟨fu - 1, by omega⟩
  unfold rowP
  rw [h1]
  show moreP key ks (ks.length + 1) D0 j0.toNat = _
  rw [← hf]
  rw [more_succ, if_pos hb, show j.toNat + 1 = (j + 1).toNat by omega, hk]
theorem row_none0 {ks : List Int} {key : Key} {i : Int} (h1 : key i.toNat = none) : rowP key ks i.toNat = none := by
  unfold rowP; rw [h1]
theorem walkWords20 : True := by
  w_top off
  k_with_none
  k_with "my enter" => ((refine' code_def ?q9k1 ?q9k2 ?q9k3 ?q9k4 ?q9k5 ?q9kA ?q9kF ?q9kK ?q9k6 ?q9k7 ?q9k8 ?q9k9 ?q9kB ?_ ?q9c2 ?q9c3 ?q9c4 ?q9c5; (case q9kA => exact rfl); (case q9kF => exact rfl); (case q9kK => first | exact rfl | assumption); (case q9k1 => k_asm); (case q9k2 => k_asm); (case q9k3 => k_asm); (case q9k4 => k_asm); (case q9k5 => k_asm); (case q9k6 => k_is); (case q9k7 => k_is); (case q9k8 => ktr_room); (case q9k9 => first | exact binds_K (by k_in) rfl (by k_is) rfl rfl rfl | exact BindsTo.of_eq rfl); (case q9c5 => decide); (case q9kB => exact locs rfl); (case q9c2 => exact rfl); (case q9c3 => exact rfl); (case q9c4 => exact rfl); k_whole; intro z9g' z9L' z9h' z9FG' z9F' z9N' z9B' z9X' z9T'; (try dsimp only); (try k_fold)))
  k_with "kept up" => (repeat (first | exact Kept.refl _ _ | with_reducible assumption | refine Kept.cons ?_ _ | refine Kept.trans ?_ (by with_reducible assumption) | refine Kept.sub ?_ (by with_reducible assumption)))
  k_with "dat up" => first | with_reducible assumption | (refine Stay.use (by with_reducible assumption) ?_; (repeat (first | exact Kept.refl _ _ | with_reducible assumption | refine Kept.cons ?_ _ | refine Kept.trans ?_ (by with_reducible assumption) | refine Kept.sub ?_ (by with_reducible assumption))))
  k_with "stay up" => first | with_reducible assumption | (refine Stay.kept (by with_reducible assumption) ?_; (repeat (first | exact Kept.refl _ _ | with_reducible assumption | refine Kept.cons ?_ _ | refine Kept.trans ?_ (by with_reducible assumption) | refine Kept.sub ?_ (by with_reducible assumption))))
  k_with "mem up" => (repeat (first | with_reducible assumption | refine List.mem_cons_of_mem _ ?_))
  k_with "setAttr ref" => (k_here; (with_reducible show wpAny _ _ (setAttr (Value.ref _) (PySem.Str.ofString "at") (Value.int _ _)) _ _ _); k_dflt (refine' setW_at ?q9F ?q9X ?q9N ?q9x ?q9d ?_; (case q9F => k_asm); (case q9X => k_asm); (case q9N => k_asm); (case q9x => k_mem); (case q9d => k_mem); k_whole); intro z9h' z9F' z9N')
  k_with "call ref" => ((with_reducible show wpAny _ _ (PySem.call (Value.ref 502) _) _ _ _); k_here; k_dflt (refine wpAny_call ?_; (walk_at "my enter")))
  k_with "call ref" => ((with_reducible show wpAny _ _ (PySem.call (Value.ref 95) _) _ _ _); k_here; k_dflt (refine' mk_exc ?q9kB ?q9kF ?q9kX ?q9kN ?q9kT ?q9kk ?q9kc ?q9kc2 ?q9q1 ?q9q2 ?q9q3 ?q9q4 ?q9kr ?q9ku ?_; (case q9kB => k_asm); (case q9kF => k_asm); (case q9kX => k_asm); (case q9kN => k_asm); (case q9kT => k_asm); (case q9kk => first | exact rfl | assumption); (case q9kc => kernel_rfl); (case q9kc2 => kernel_rfl); (case q9q1 => k_is); (case q9q2 => k_is); (case q9q3 => k_is); (case q9q4 => k_is); (case q9kr => ktr_room); (case q9ku => ktr_units); k_whole); (intro z9e z9t z9dd z9k1 z9k2 z9t1 z9t2 z9h' z9tk' z9F' z9N' z9hne z9hlt))
  k_with "call ref" => ((with_reducible show wpAny _ _ (PySem.call (Value.ref 119) _) _ _ _); k_here; k_dflt (refine' mk_exc ?q9kB ?q9kF ?q9kX ?q9kN ?q9kT ?q9kk ?q9kc ?q9kc2 ?q9q1 ?q9q2 ?q9q3 ?q9q4 ?q9kr ?q9ku ?_; (case q9kB => k_asm); (case q9kF => k_asm); (case q9kX => k_asm); (case q9kN => k_asm); (case q9kT => k_asm); (case q9kk => first | exact rfl | assumption); (case q9kc => kernel_rfl); (case q9kc2 => kernel_rfl); (case q9q1 => k_is); (case q9q2 => k_is); (case q9q3 => k_is); (case q9q4 => k_is); (case q9kr => ktr_room); (case q9ku => ktr_units); k_whole); (intro z9e z9t z9dd z9k1 z9k2 z9t1 z9t2 z9h' z9tk' z9F' z9N' z9hne z9hlt))
  k_with "exec Raise some none" => (k_here; k_dflt (refine' RaiseX ?q9hh ?_; (case q9hh => exact rfl); k_whole))
  k_with "RaisableX" => (k_here; k_dflt (refine' ⟨_, _, _, _, rfl, News.get ?q9N ?q9m, xcls_of (K := Mine.laid.heap_1 _) (Frag.In.keeps ?q9X (Fr.keep ?q9F)) ?q9q, ?_⟩; (case q9F => k_asm); (case q9N => k_asm); (case q9m => k_mem); (case q9X => k_asm); (case q9q => kernel_rfl); k_whole))
  k_with "leaving ref" => (k_here; k_dflt (first
  | (refine' leave_own (ctx := Value.none) ?q9K ?q9F ?q9N ?q9ne ?_ ?q9hk; (case q9F => k_asm); (case q9N => k_asm); (case q9K => k_asm); (case q9ne => assumption); (case q9hk => exact rfl); k_whole; intro z9h' z9R' z9Th' z9U')
  | (refine' leave_thrown ?q9K ?q9F ?q9R ?q9U ?_; (case q9R => assumption); (case q9F => assumption); (case q9K => k_asm); (case q9U => assumption); k_whole; intro z9h' z9Th' z9U')
  | (refine' leave_onSN ?q9K ?q9F ?q9R ?q9U ?_; (case q9R => assumption); (case q9F => assumption); (case q9K => k_asm); (case q9U => assumption); k_whole; intro z9h' z9R' _ z9U')))
  k_with "call ref" => ((with_reducible show wpAny _ _ (PySem.call (Value.ref 509) _) _ _ _); k_here; k_dflt (refine' peek_spec ?q9kB ?q9kF ?q9kX ?q9kN ?q9kT ?q9kk ?q9kx ?q9kd ?q9kb ?q9ke ?q9k0 ?q9kl ?q9kr ?q9ku ?_; (case q9kB => k_asm); (case q9kF => k_asm); (case q9kX => k_asm); (case q9kN => k_asm); (case q9kT => k_asm); (case q9kk => first | exact rfl | assumption); (case q9kx => first | k_mem | assumption); (case q9kd => first | k_mem | assumption); (case q9kb => assumption); (case q9ke => assumption); (case q9k0 => first | assumption | omega); (case q9kl => first | assumption | omega); (case q9kr => ktr_room); (case q9ku => ktr_units); k_whole); (intro z9h' z9tk' z9tv z9F' z9N'))
  k_with "call ref" => ((with_reducible show wpAny _ _ (PySem.call (Value.ref 516) _) _ _ _); k_here; k_dflt (refine' skip_spec ?q9kB ?q9kF ?q9kX ?q9kN ?q9kT ?q9kk ?q9kx ?q9kd ?q9kb ?q9ke ?q9k0 ?q9kl ?q9kr ?q9ku ?_ ?_; (case q9kB => k_asm); (case q9kF => k_asm); (case q9kX => k_asm); (case q9kN => k_asm); (case q9kT => k_asm); (case q9kk => first | exact rfl | assumption); (case q9kx => first | k_mem | assumption); (case q9kd => first | k_mem | assumption); (case q9kb => assumption); (case q9ke => assumption); (case q9k0 => first | assumption | omega); (case q9kl => first | assumption | omega); (case q9kr => ktr_room); (case q9ku => ktr_units); k_whole); (intro z9hc z9nx z9h' z9tk' z9ta' z9F' z9N' z9hK' z9hd'; (try (k_dflt (have z9hx' := z9hK' (_, instObj 665 _) (by first | assumption | k_mem) (by first | assumption | k_ne))))); rotate_left; (intro z9hc z9h' z9tk' z9F' z9N'); rotate_left)
  k_with "call ref" => ((with_reducible show wpAny _ _ (PySem.call (Value.ref 530) _) _ _ _); k_here; k_dflt (refine' space_spec ?q9kB ?q9kF ?q9kX ?q9kN ?q9kT ?q9kk ?q9kx ?q9kd ?q9kb ?q9ke ?q9k0 ?q9kl ?q9kr ?q9ku ?_ ?_; (case q9kB => k_asm); (case q9kF => k_asm); (case q9kX => k_asm); (case q9kN => k_asm); (case q9kT => k_asm); (case q9kk => first | exact rfl | assumption); (case q9kx => first | k_mem | assumption); (case q9kd => first | k_mem | assumption); (case q9kb => assumption); (case q9ke => assumption); (case q9k0 => first | assumption | omega); (case q9kl => first | assumption | omega); (case q9kr => ktr_room); (case q9ku => ktr_units); k_whole); (intro z9hc z9nx z9h' z9tk' z9ta' z9F' z9N' z9hK' z9hd'; (try (k_dflt (have z9hx' := z9hK' (_, instObj 665 _) (by first | assumption | k_mem) (by first | assumption | k_ne))))); rotate_left; (intro z9hc z9g z9e z9nx z9h' z9tk' z9FG' z9R' z9U' z9hK'); rotate_left)
  k_with "call ref" => ((with_reducible show wpAny _ _ (PySem.call (Value.ref 396) _) _ _ _); k_here; k_dflt (refine' reader_use ?q9kH ?q9kB ?q9kF ?q9kX ?q9kN ?q9kT ?q9kk ?q9kx ?q9kd ?q9kb ?q9k0 ?q9kl ?q9kp ?q9kXB ?q9kTB ?q9kr ?q9ku ?_ ?_; (case q9kH => assumption); (case q9kB => k_asm); (case q9kF => k_asm); (case q9kX => k_asm); (case q9kN => k_asm); (case q9kT => k_asm); (case q9kk => first | exact rfl | assumption); (case q9kx => first | k_mem | assumption); (case q9kd => first | k_mem | assumption); (case q9kb => assumption); (case q9k0 => first | assumption | omega); (case q9kl => first | assumption | omega | exact step_in (by omega) (by assumption) (by decide)); (case q9kp => first | assumption | exact pos_blank (by omega) (by assumption) | exact pos_open (by omega) (by assumption)); (case q9kXB => assumption); (case q9kTB => assumption); (case q9kr => ktr_room); (case q9ku => ktr_units); k_whole); (intro z9D z9j z9hc z9hj1 z9hj2 z9T z9nx z9h' z9tk' z9ta' z9F' z9N' z9hK' z9hd' z9hD'; (try (k_dflt (have z9hx' := z9hK' (_, instObj 665 _) (by first | assumption | k_mem) (by first | assumption | k_ne))))); rotate_left; (intro z9hc z9C z9hC z9g z9e z9nx z9h' z9tk' z9FG' z9R' z9U' z9hK'); rotate_left)
  trivial
theorem row_spec {prog : Program} {w : World} {ks : List Int} {key : Key} {dv : Int} {rd ru : Nat} (hT : TextOk ks) (hR : Reader prog w 396 ks (Pos0 ks) key dv rd ru) (hrd : 12 ≤ rd) (hru : 64 ≤ ru) :
    Reader prog w 403 ks (Pos0 ks) (rowP key ks) dv (rd + 1) (ru + 8) := by
  constructor
  intro mean mg mb dp un gd cn cs a ccd cl outer A₀ base h₀ L m news s Q E B F X N T hk x d h1 h2 t1 t2 tb ta tc td b at_ n hx hd hb h0 hl hp XB TB hdp hun ret exc
  have hxd : x ≠ d := inst_apart N hx hd
  have hlen := hT.len
  refine wpAny_call ?_
  k_dflt (walk_at "my enter")
  k_with "exec While" => (k_here; (rename Fr _ _ _ _ => hFw); (rename News _ _ _ _ => hNw); (rename Stay _ _ _ _ => hDw); (rename Kept _ _ _ => hKw); (rename ((_, wdict _ _ _ _ _ _ _ _ _) ∈ _) => hdw); (rename _ = some (_, Int.toNat _) => hcw); k_dflt (refine' While_J (fun mm => JRow ks key _ _ mm news d h1 h2 t1 t2 tb b n) hFw hNw (jrow_start (by rfl) (by omega) (by assumption) hdw hKw hDw) ?_ (by passes_own); k_whole; clear hFw hNw hDw hdw hKw; rintro kk mm nx hh1 tk1 F1 N1 ⟨T1, D1, j1, ta1, fu1, rfl, hf1, hfu1, hj10, hj1l, hjj1, hK1, hd1, hD1, rfl⟩; (have hx1 := hK1 _ hx hxd)))
  k_steps
  · exact jrow_step (by k_asm) (by k_asm) hf1 hfu1 hj10 hj1l hjj1 (by assumption) (by assumption) (by assumption) (by assumption) (by walk_at "kept up") (by walk_at "mem up") (Stay.of (by k_asm) (by walk_at "mem up") (.tuple (vs := [_, _, _]) (List.Mem.head _) (.cons (.str _ _) (.cons (by walk_at "dat up") (.cons (by walk_at "dat up") .nil))))) (by rfl) (by intro y hy; simp only [if_neg hy])
  all_goals first
    | (rename (_ = 95 ∨ _ = 119) => hC; exact exc (jrow_none (by assumption) hf1 hfu1 hj10 hj1l (by assumption) (by assumption)) _ hC _ _ _ _ _ (by assumption) (by assumption) (by assumption) (by walk_at "kept up"))
    | (exfalso; omega)
    | exact ret _ _ (jrow_done (by assumption) hf1 hfu1 hj10 hj1l (by assumption)) (by omega) hj1l _ _ _ _ _ (by k_asm) (by k_asm) (by walk_at "kept up") (by walk_at "mem up") (by walk_at "stay up")
    | (rename (_ = 95 ∨ _ = 119) => hC; exact exc (row_none0 (by assumption)) _ hC _ _ _ _ _ (by assumption) (by assumption) (by assumption) (by walk_at "kept up"))
end Mine
end
section
open PySem PySem.W PyProof.Rows
open Lean Elab Tactic Meta
set_option Elab.async false
set_option maxRecDepth 100000
set_option maxHeartbeats 8000000
namespace Mine
theorem other_ne {W X : Str} (h : NotOther W) (hX : X ∈ others) : (W == X) = false := by
  rw [beq_eq_false_iff_ne]
  rintro rfl
  exact h hX
theorem other_any {W : Str} {l : List Str} (h : NotOther W) (hX : ∀ z ∈ l, z ∈ others) : (l.any fun x => x == W) = false := any_not hX h
section
variable {prog : Program} {w : World} {mean : ExcName → Option Value} {mg mb : Str → Option Value}
    {dp un : Nat} {gd : Option (List Code)} {cn : Str} {cs : Scope} {a : Addr} {ccd : Value} {cl : List (Str × Addr)} {outer : List Env} {A₀ : Around} {base h₀ : Heap} {L : Addr} {m : Str → Option Value} {news : List (Addr × Obj)} {s : Shared}
    {Q E : Value → Shared → Prop}
    (B : Below A₀ base outer h₀) (F : Fr h₀ L s.heap m) (X : (Mine.laid.heap_1 w.params).In h₀) (N : News h₀ L s.heap news) (T : Top Mine.vw LL mean mg mb h₀) (hk : cs.kind = .function)
include B F X N T hk
variable {x d : Addr} {h1 h2 : Int} {t1 t2 tb ta : Tok} {b : Array UInt8} {ks : List Int} {at_ : Int} {n : Nat}
    (hx : (x, instObj 665 d) ∈ news) (hd : (d, wdict h1 h2 t1 t2 tb ta b at_ n) ∈ news) (hb : KBw.bInts b = ks) (hlen : ks.length ≤ 10000) (h0 : 0 ≤ at_) (hl : at_ ≤ ks.length)
include hx hd hb hlen h0 hl
theorem walkWords21 : True := by
  w_top off
  k_with_none
  k_with "my enter" => ((refine' code_def ?q9k1 ?q9k2 ?q9k3 ?q9k4 ?q9k5 ?q9kA ?q9kF ?q9kK ?q9k6 ?q9k7 ?q9k8 ?q9k9 ?q9kB ?_ ?q9c2 ?q9c3 ?q9c4 ?q9c5; (case q9kA => exact rfl); (case q9kF => exact rfl); (case q9kK => first | exact rfl | assumption); (case q9k1 => k_asm); (case q9k2 => k_asm); (case q9k3 => k_asm); (case q9k4 => k_asm); (case q9k5 => k_asm); (case q9k6 => k_is); (case q9k7 => k_is); (case q9k8 => ktr_room); (case q9k9 => first | exact binds_K (by k_in) rfl (by k_is) rfl rfl rfl | exact BindsTo.of_eq rfl); (case q9c5 => decide); (case q9kB => exact locs rfl); (case q9c2 => exact rfl); (case q9c3 => exact rfl); (case q9c4 => exact rfl); k_whole; intro z9g' z9L' z9h' z9FG' z9F' z9N' z9B' z9X' z9T'; (try dsimp only); (try k_fold)))
  k_with "call builtin:str.split" => (k_here; (with_reducible show wpAny _ _ (call (Value.builtin "str.split") [_, _]) _ _ _); k_dflt (refine' split_K ?q9k0 ?q9k1 ?q9k2 ?q9k3 ?q9k4 ?_; (case q9k0 => decide +kernel); (case q9k1 => k_asm); (case q9k2 => k_asm); (case q9k3 => decide); (case q9k4 => decide +kernel); k_whole); intro z9D' z9vs' z9h' z9k' z9SA' z9ho' z9F' z9N' z9l1')
  k_with "compareOp In str ref" => (k_here; (with_reducible show wpAny _ _ (compareOp CmpOp.In (Value.str _ _) (Value.ref _)) _ _ _); k_dflt (refine' in_words ?q9k1 ?q9k2 ?q9k3 ?_; (case q9k1 => k_asm); (case q9k2 => with_reducible assumption); (case q9k3 => first | exact any_not (by with_reducible assumption) (by with_reducible assumption) | exact any_not5 (by decide +kernel) (by first | assumption | (rename (_ → _ ∉ flags5) => z9hF5; exact z9hF5 (by assumption))) | exact as_false (by decide +kernel) | exact as_true (by decide +kernel)); k_whole); intro z9N'; (try dsimp only at z9N'))
  k_with "compareOp In str ref" => (k_here; (with_reducible show wpAny _ _ (compareOp CmpOp.In (Value.str _ _) (Value.ref _)) _ _ _); k_dflt (refine' in_tup ?q9k1 ?q9k2 ?q9k3 ?_; (case q9k1 => k_asm); (case q9k2 => repeat constructor); (case q9k3 => first | assumption | exact as_false (by decide +kernel) | exact as_true (by decide +kernel)); k_whole); intro z9N'; (try dsimp only at z9N'))
  k_with "setAttr ref" => (k_here; (with_reducible show wpAny _ _ (setAttr (Value.ref _) (PySem.Str.ofString "at") (Value.int _ _)) _ _ _); k_dflt (refine' setW_at ?q9F ?q9X ?q9N ?q9x ?q9d ?_; (case q9F => k_asm); (case q9X => k_asm); (case q9N => k_asm); (case q9x => k_mem); (case q9d => k_mem); k_whole); intro z9h' z9F' z9N')
  k_with "exec Raise some none" => (k_here; k_dflt (refine' RaiseX ?q9hh ?_; (case q9hh => exact rfl); k_whole))
  k_with "RaisableX" => (k_here; k_dflt (refine' ⟨_, _, _, _, rfl, News.get ?q9N ?q9m, xcls_of (K := Mine.laid.heap_1 _) (Frag.In.keeps ?q9X (Fr.keep ?q9F)) ?q9q, ?_⟩; (case q9F => k_asm); (case q9N => k_asm); (case q9m => k_mem); (case q9X => k_asm); (case q9q => kernel_rfl); k_whole))
  k_with "leaving ref" => (k_here; k_dflt (first
  | (refine' leave_own (ctx := Value.none) ?q9K ?q9F ?q9N ?q9ne ?_ ?q9hk; (case q9F => k_asm); (case q9N => k_asm); (case q9K => k_asm); (case q9ne => assumption); (case q9hk => exact rfl); k_whole; intro z9h' z9R' z9Th' z9U')
  | (refine' leave_thrown ?q9K ?q9F ?q9R ?q9U ?_; (case q9R => assumption); (case q9F => assumption); (case q9K => k_asm); (case q9U => assumption); k_whole; intro z9h' z9Th' z9U')
  | (refine' leave_onSN ?q9K ?q9F ?q9R ?q9U ?_; (case q9R => assumption); (case q9F => assumption); (case q9K => k_asm); (case q9U => assumption); k_whole; intro z9h' z9R' _ z9U')))
  k_with "call ref" => ((with_reducible show wpAny _ _ (PySem.call (Value.ref 502) _) _ _ _); k_here; k_dflt (refine wpAny_call ?_; (walk_at "my enter")))
  k_with "call ref" => ((with_reducible show wpAny _ _ (PySem.call (Value.ref 119) _) _ _ _); k_here; k_dflt (refine' mk_exc ?q9kB ?q9kF ?q9kX ?q9kN ?q9kT ?q9kk ?q9kc ?q9kc2 ?q9q1 ?q9q2 ?q9q3 ?q9q4 ?q9kr ?q9ku ?_; (case q9kB => k_asm); (case q9kF => k_asm); (case q9kX => k_asm); (case q9kN => k_asm); (case q9kT => k_asm); (case q9kk => first | exact rfl | assumption); (case q9kc => kernel_rfl); (case q9kc2 => kernel_rfl); (case q9q1 => k_is); (case q9q2 => k_is); (case q9q3 => k_is); (case q9q4 => k_is); (case q9kr => ktr_room); (case q9ku => ktr_units); k_whole); (intro z9e z9t z9dd z9k1 z9k2 z9t1 z9t2 z9h' z9tk' z9F' z9N' z9hne z9hlt))
  trivial
theorem leafof_spec {W : Str} {tw tc : Tok} (hW : W.length ≤ 10000) (hO : NotOther W)
    (hdp : dp + 8 < recursionLimit) (hun : un + 64 < cLine)
    (exc : ∀ g e nx h' tk', Fr h₀ L g m → RaisedSN base g (envX cn cs L a ccd cl :: outer) e (.ref 119) nx h' → g.UpToSlots h' → Kept d news nx → E (.ref e) { s with heap := h', toks := tk' }) :
    wpAny (model prog w) (ktrTop dp un gd cn cs L a ccd cl outer) (call (.ref 382) [.ref x, .str W tw, .str (Str.ofString "utf-8") tc]) Q E s := by
  have hxd : x ≠ d := inst_apart N hx hd
  have q1 : ([Str.ofString "KEYWORD", Str.ofString "UNKEYWORD"].any fun x => x == W) = false := other_any hO (by decide +kernel)
  have q2 : (W == Str.ofString "HEADER") = false := other_ne hO (by decide +kernel)
  have q3 : (W == Str.ofString "UID") = false := other_ne hO (by decide +kernel)
  have q4 : (W == Str.ofString "MODSEQ") = false := other_ne hO (by decide +kernel)
  refine wpAny_call ?_
  k_dflt (walk_at "my enter")
  k_steps
  exact exc _ _ _ _ _ (by assumption) (by assumption) (by assumption) (Kept.cons (Kept.refl _ _) _)
end
end Mine
end
section
open PySem PySem.W PyProof.Rows
open Lean Elab Tactic Meta
set_option Elab.async false
set_option maxRecDepth 100000
set_option maxHeartbeats 8000000
namespace Mine
theorem wd_fits {ks : List Int} {i : Nat} (h : ks.length ≤ 10000) : (strOf ((took isL ks i).map upL)).length ≤ 10000 := by
  rw [strOf_length, List.length_map]; exact took_fits h
section
variable {prog : Program} {w : World} {mean : ExcName → Option Value} {mg mb : Str → Option Value}
    {dp un : Nat} {gd : Option (List Code)} {cn : Str} {cs : Scope} {a : Addr} {ccd : Value} {cl : List (Str × Addr)} {outer : List Env} {A₀ : Around} {base h₀ : Heap} {L : Addr} {m : Str → Option Value} {news : List (Addr × Obj)} {s : Shared}
    {Q E : Value → Shared → Prop}
    (B : Below A₀ base outer h₀) (F : Fr h₀ L s.heap m) (X : (Mine.laid.heap_1 w.params).In h₀) (N : News h₀ L s.heap news) (T : Top Mine.vw LL mean mg mb h₀) (hk : cs.kind = .function)
include B F X N T hk
theorem flagleaf_spec {W : Str} {t : Tok} (hW : W.length ≤ 10000) (hO : NotOther W) (h5 : ∀ W2 : Str, W.cps.toList = 85 :: 78 :: W2.cps.toList → W2 ∈ flags5 → W = Str.ofString "UNSEEN")
    (hdp : dp + 8 < recursionLimit) (hun : un + 64 < cLine)
    (yes : ∀ D, leafP W = some D → ∀ T nx h' tk', Fr h₀ L h' m → News h₀ L h' nx → (∀ p ∈ news, p ∈ nx) → DatIn nx (.ref T) D → Q (.ref T) { s with heap := h', toks := tk' })
    (no : leafP W = none → ∀ nx h' tk', Fr h₀ L h' m → News h₀ L h' nx → (∀ p ∈ news, p ∈ nx) → Q .none { s with heap := h', toks := tk' }) :
    wpAny (model prog w) (ktrTop dp un gd cn cs L a ccd cl outer) (call (.ref 368) [.str W t]) Q E s := by
  by_cases q1 : W = Str.ofString "ALL"
  · subst q1; exact flagleaf_all B F X N T hk hdp hun (yes _ rfl)
  by_cases q2 : W = Str.ofString "UNSEEN"
  · subst q2; exact flagleaf_un B F X N T hk hdp hun (yes _ rfl)
  by_cases q3 : W = Str.ofString "NEW"
  · subst q3; exact flagleaf_new B F X N T hk hdp hun (yes _ rfl)
  refine flagleaf_none B F X N T hk hW hO (fun h hm => q2 (h5 _ (slice_un h) hm)) ?_ ?_ hdp hun (no ?_)
  · have := other_ne (X := Str.ofString "OLD") hO (by decide +kernel)
    rw [beq_eq_false_iff_ne] at this
    simp [Ne.symm q1, Ne.symm this]
  · have := other_ne (X := Str.ofString "RECENT") hO (by decide +kernel)
    rw [beq_eq_false_iff_ne] at this
    simp [Ne.symm q3, Ne.symm this]
  · unfold leafP; rw [if_neg q1, if_neg q2, if_neg q3]
end
section
variable {prog : Program} {w : World} {mean : ExcName → Option Value} {mg mb : Str → Option Value}
    {dp un : Nat} {gd : Option (List Code)} {cn : Str} {cs : Scope} {a : Addr} {ccd : Value} {cl : List (Str × Addr)} {outer : List Env} {A₀ : Around} {base h₀ : Heap} {L : Addr} {m : Str → Option Value} {news : List (Addr × Obj)} {s : Shared}
    {Q E : Value → Shared → Prop}
    (B : Below A₀ base outer h₀) (F : Fr h₀ L s.heap m) (X : (Mine.laid.heap_1 w.params).In h₀) (N : News h₀ L s.heap news) (T : Top Mine.vw LL mean mg mb h₀) (hk : cs.kind = .function)
include B F X N T hk
variable {x d : Addr} {h1 h2 : Int} {t1 t2 tb ta : Tok} {b : Array UInt8} {ks : List Int} {at_ : Int} {n : Nat}
    (hx : (x, instObj 665 d) ∈ news) (hd : (d, wdict h1 h2 t1 t2 tb ta b at_ n) ∈ news) (hb : KBw.bInts b = ks) (hlen : ks.length ≤ 10000) (h0 : 0 ≤ at_) (hl : at_ ≤ ks.length)
include hx hd hb hlen h0 hl
variable (hlo : ∀ k ∈ ks, 0 ≤ k ∧ k < (128 : Int))
include hlo
theorem keyword_none (hz : took isL ks at_.toNat = [])
    (hdp : dp + 8 < recursionLimit) (hun : un + 48 < cLine)
    (exc : ∀ g e nx h' tk', Fr h₀ L g m → RaisedSN base g (envX cn cs L a ccd cl :: outer) e (.ref 119) nx h' → g.UpToSlots h' → Kept d news nx → E (.ref e) { s with heap := h', toks := tk' }) :
    wpAny (model prog w) (ktrTop dp un gd cn cs L a ccd cl outer) (call (.ref 319) [.ref x]) Q E s :=
  keyword_spec B F X N T hk hx hd hb hlen h0 hl hlo hdp hun (fun h => absurd hz h) fun _ => exc
end
theorem step_brk {key : Key} {ks : List Int} {i : Int} (h : pk ks i.toNat = 40) : stepP key ks i.toNat = brkP key ks i.toNat := by
  unfold stepP brkP; rw [if_pos h]; try rfl
theorem seq_dat {nx : List (Addr × Obj)} {D T P : Addr} {t : Tok} {lo hi : Int} (hT : (T, ({ cls := .type "tuple", data := .seq #[.ref P] } : Obj)) ∈ nx) (hP : ∃ t1 t2, (P, ({ cls := .type "tuple", data := .seq #[.int lo t1, .int hi t2] } : Obj)) ∈ nx) :
    DatIn ((D, ({ cls := .type "tuple", data := .seq #[.str (Str.ofString "seq") t, .ref T] } : Obj)) :: nx) (.ref D) (tSeq lo hi) := by
  obtain ⟨t1, t2, hP⟩ := hP
  exact .tuple (vs := [_, _]) (List.Mem.head _) (.cons (.str _ _) (.cons (.tuple (vs := [_]) (List.Mem.tail _ hT) (.cons (.tuple (vs := [_, _]) (List.Mem.tail _ hP) (.cons (.int _ _) (.cons (.int _ _) .nil))) .nil)) .nil))
theorem step_neg {key : Key} {ks : List Int} {i : Int} (h0 : 0 ≤ i) (h : pk ks i.toNat < 0) (hz : took isL ks i.toNat = []) : stepP key ks i.toNat = none := by
  rw [step_word h0 (by omega) (isS_neg h)]
  exact word_nil hz
theorem took_neg {ks : List Int} {i : Nat} (hlo : ∀ k ∈ ks, 0 ≤ k ∧ k < (128 : Int)) (h : pk ks i < 0) : took isL ks i = [] := by
  have : ks.length ≤ i := by
    by_cases q : i < ks.length
    · have := (pk_lo hlo q).1; omega
    · omega
  unfold took
  rw [List.drop_eq_nil_of_le this]; rfl
theorem walkWords22 : True := by
  w_top off
  k_with_none
  k_with "my enter" => ((refine' code_def ?q9k1 ?q9k2 ?q9k3 ?q9k4 ?q9k5 ?q9kA ?q9kF ?q9kK ?q9k6 ?q9k7 ?q9k8 ?q9k9 ?q9kB ?_ ?q9c2 ?q9c3 ?q9c4 ?q9c5; (case q9kA => exact rfl); (case q9kF => exact rfl); (case q9kK => first | exact rfl | assumption); (case q9k1 => k_asm); (case q9k2 => k_asm); (case q9k3 => k_asm); (case q9k4 => k_asm); (case q9k5 => k_asm); (case q9k6 => k_is); (case q9k7 => k_is); (case q9k8 => ktr_room); (case q9k9 => first | exact binds_K (by k_in) rfl (by k_is) rfl rfl rfl | exact BindsTo.of_eq rfl); (case q9c5 => decide); (case q9kB => exact locs rfl); (case q9c2 => exact rfl); (case q9c3 => exact rfl); (case q9c4 => exact rfl); k_whole; intro z9g' z9L' z9h' z9FG' z9F' z9N' z9B' z9X' z9T'; (try dsimp only); (try k_fold)))
  k_with "kept up" => (repeat (first | exact Kept.refl _ _ | with_reducible assumption | refine Kept.cons ?_ _ | refine Kept.trans ?_ (by with_reducible assumption) | refine Kept.sub ?_ (by with_reducible assumption)))
  k_with "dat up" => first | with_reducible assumption | (refine Stay.use (by with_reducible assumption) ?_; (repeat (first | exact Kept.refl _ _ | with_reducible assumption | refine Kept.cons ?_ _ | refine Kept.trans ?_ (by with_reducible assumption) | refine Kept.sub ?_ (by with_reducible assumption))))
  k_with "stay up" => first | with_reducible assumption | (refine Stay.kept (by with_reducible assumption) ?_; (repeat (first | exact Kept.refl _ _ | with_reducible assumption | refine Kept.cons ?_ _ | refine Kept.trans ?_ (by with_reducible assumption) | refine Kept.sub ?_ (by with_reducible assumption))))
  k_with "mem up" => (repeat (first | with_reducible assumption | refine List.mem_cons_of_mem _ ?_))
  k_with "compareOp In int bytes" => (k_here; k_dflt (refine' in_bytes ?q9h0 ?q9h1 ?_; (case q9h0 => first | assumption | omega); (case q9h1 => first | assumption | omega); k_whole))
  k_with "setAttr ref" => (k_here; (with_reducible show wpAny _ _ (setAttr (Value.ref _) (PySem.Str.ofString "at") (Value.int _ _)) _ _ _); k_dflt (refine' setW_at ?q9F ?q9X ?q9N ?q9x ?q9d ?_; (case q9F => k_asm); (case q9X => k_asm); (case q9N => k_asm); (case q9x => k_mem); (case q9d => k_mem); k_whole); intro z9h' z9F' z9N')
  k_with "call ref" => ((with_reducible show wpAny _ _ (PySem.call (Value.ref 502) _) _ _ _); k_here; k_dflt (refine wpAny_call ?_; (walk_at "my enter")))
  k_with "call ref" => ((with_reducible show wpAny _ _ (PySem.call (Value.ref 95) _) _ _ _); k_here; k_dflt (refine' mk_exc ?q9kB ?q9kF ?q9kX ?q9kN ?q9kT ?q9kk ?q9kc ?q9kc2 ?q9q1 ?q9q2 ?q9q3 ?q9q4 ?q9kr ?q9ku ?_; (case q9kB => k_asm); (case q9kF => k_asm); (case q9kX => k_asm); (case q9kN => k_asm); (case q9kT => k_asm); (case q9kk => first | exact rfl | assumption); (case q9kc => kernel_rfl); (case q9kc2 => kernel_rfl); (case q9q1 => k_is); (case q9q2 => k_is); (case q9q3 => k_is); (case q9q4 => k_is); (case q9kr => ktr_room); (case q9ku => ktr_units); k_whole); (intro z9e z9t z9dd z9k1 z9k2 z9t1 z9t2 z9h' z9tk' z9F' z9N' z9hne z9hlt))
  k_with "call ref" => ((with_reducible show wpAny _ _ (PySem.call (Value.ref 119) _) _ _ _); k_here; k_dflt (refine' mk_exc ?q9kB ?q9kF ?q9kX ?q9kN ?q9kT ?q9kk ?q9kc ?q9kc2 ?q9q1 ?q9q2 ?q9q3 ?q9q4 ?q9kr ?q9ku ?_; (case q9kB => k_asm); (case q9kF => k_asm); (case q9kX => k_asm); (case q9kN => k_asm); (case q9kT => k_asm); (case q9kk => first | exact rfl | assumption); (case q9kc => kernel_rfl); (case q9kc2 => kernel_rfl); (case q9q1 => k_is); (case q9q2 => k_is); (case q9q3 => k_is); (case q9q4 => k_is); (case q9kr => ktr_room); (case q9ku => ktr_units); k_whole); (intro z9e z9t z9dd z9k1 z9k2 z9t1 z9t2 z9h' z9tk' z9F' z9N' z9hne z9hlt))
  k_with "exec Raise some none" => (k_here; k_dflt (refine' RaiseX ?q9hh ?_; (case q9hh => exact rfl); k_whole))
  k_with "RaisableX" => (k_here; k_dflt (refine' ⟨_, _, _, _, rfl, News.get ?q9N ?q9m, xcls_of (K := Mine.laid.heap_1 _) (Frag.In.keeps ?q9X (Fr.keep ?q9F)) ?q9q, ?_⟩; (case q9F => k_asm); (case q9N => k_asm); (case q9m => k_mem); (case q9X => k_asm); (case q9q => kernel_rfl); k_whole))
  k_with "leaving ref" => (k_here; k_dflt (first
  | (refine' leave_own (ctx := Value.none) ?q9K ?q9F ?q9N ?q9ne ?_ ?q9hk; (case q9F => k_asm); (case q9N => k_asm); (case q9K => k_asm); (case q9ne => assumption); (case q9hk => exact rfl); k_whole; intro z9h' z9R' z9Th' z9U')
  | (refine' leave_thrown ?q9K ?q9F ?q9R ?q9U ?_; (case q9R => assumption); (case q9F => assumption); (case q9K => k_asm); (case q9U => assumption); k_whole; intro z9h' z9Th' z9U')
  | (refine' leave_onSN ?q9K ?q9F ?q9R ?q9U ?_; (case q9R => assumption); (case q9F => assumption); (case q9K => k_asm); (case q9U => assumption); k_whole; intro z9h' z9R' _ z9U')))
  k_with "call ref" => ((with_reducible show wpAny _ _ (PySem.call (Value.ref 509) _) _ _ _); k_here; k_dflt (refine' peek_spec ?q9kB ?q9kF ?q9kX ?q9kN ?q9kT ?q9kk ?q9kx ?q9kd ?q9kb ?q9ke ?q9k0 ?q9kl ?q9kr ?q9ku ?_; (case q9kB => k_asm); (case q9kF => k_asm); (case q9kX => k_asm); (case q9kN => k_asm); (case q9kT => k_asm); (case q9kk => first | exact rfl | assumption); (case q9kx => first | k_mem | assumption); (case q9kd => first | k_mem | assumption); (case q9kb => assumption); (case q9ke => assumption); (case q9k0 => first | assumption | omega); (case q9kl => first | assumption | omega); (case q9kr => ktr_room); (case q9ku => ktr_units); k_whole); (intro z9h' z9tk' z9tv z9F' z9N'))
  k_with "call ref" => ((with_reducible show wpAny _ _ (PySem.call (Value.ref 530) _) _ _ _); k_here; k_dflt (refine' space_spec ?q9kB ?q9kF ?q9kX ?q9kN ?q9kT ?q9kk ?q9kx ?q9kd ?q9kb ?q9ke ?q9k0 ?q9kl ?q9kr ?q9ku ?_ ?_; (case q9kB => k_asm); (case q9kF => k_asm); (case q9kX => k_asm); (case q9kN => k_asm); (case q9kT => k_asm); (case q9kk => first | exact rfl | assumption); (case q9kx => first | k_mem | assumption); (case q9kd => first | k_mem | assumption); (case q9kb => assumption); (case q9ke => assumption); (case q9k0 => first | assumption | omega); (case q9kl => first | assumption | omega); (case q9kr => ktr_room); (case q9ku => ktr_units); k_whole); (intro z9hc z9nx z9h' z9tk' z9ta' z9F' z9N' z9hK' z9hd'; (try (k_dflt (have z9hx' := z9hK' (_, instObj 665 _) (by first | assumption | k_mem) (by first | assumption | k_ne))))); rotate_left; (intro z9hc z9g z9e z9nx z9h' z9tk' z9FG' z9R' z9U' z9hK'); rotate_left)
  k_with "call ref" => ((with_reducible show wpAny _ _ (PySem.call (Value.ref 389) _) _ _ _); k_here; k_dflt (refine' reader_use ?q9kH ?q9kB ?q9kF ?q9kX ?q9kN ?q9kT ?q9kk ?q9kx ?q9kd ?q9kb ?q9k0 ?q9kl ?q9kp ?q9kXB ?q9kTB ?q9kr ?q9ku ?_ ?_; (case q9kH => assumption); (case q9kB => k_asm); (case q9kF => k_asm); (case q9kX => k_asm); (case q9kN => k_asm); (case q9kT => k_asm); (case q9kk => first | exact rfl | assumption); (case q9kx => first | k_mem | assumption); (case q9kd => first | k_mem | assumption); (case q9kb => assumption); (case q9k0 => first | assumption | omega); (case q9kl => first | assumption | omega | exact step_in (by omega) (by assumption) (by decide)); (case q9kp => first | assumption | exact pos_blank (by omega) (by assumption) | exact pos_open (by omega) (by assumption)); (case q9kXB => assumption); (case q9kTB => assumption); (case q9kr => ktr_room); (case q9ku => ktr_units); k_whole); (intro z9D z9j z9hc z9hj1 z9hj2 z9T z9nx z9h' z9tk' z9ta' z9F' z9N' z9hK' z9hd' z9hD'; (try (k_dflt (have z9hx' := z9hK' (_, instObj 665 _) (by first | assumption | k_mem) (by first | assumption | k_ne))))); rotate_left; (intro z9hc z9C z9hC z9g z9e z9nx z9h' z9tk' z9FG' z9R' z9U' z9hK'); rotate_left)
  k_with "call ref" => ((with_reducible show wpAny _ _ (PySem.call (Value.ref 396) _) _ _ _); k_here; k_dflt (refine' reader_use ?q9kH ?q9kB ?q9kF ?q9kX ?q9kN ?q9kT ?q9kk ?q9kx ?q9kd ?q9kb ?q9k0 ?q9kl ?q9kp ?q9kXB ?q9kTB ?q9kr ?q9ku ?_ ?_; (case q9kH => assumption); (case q9kB => k_asm); (case q9kF => k_asm); (case q9kX => k_asm); (case q9kN => k_asm); (case q9kT => k_asm); (case q9kk => first | exact rfl | assumption); (case q9kx => first | k_mem | assumption); (case q9kd => first | k_mem | assumption); (case q9kb => assumption); (case q9k0 => first | assumption | omega); (case q9kl => first | assumption | omega | exact step_in (by omega) (by assumption) (by decide)); (case q9kp => first | assumption | exact pos_blank (by omega) (by assumption) | exact pos_open (by omega) (by assumption)); (case q9kXB => assumption); (case q9kTB => assumption); (case q9kr => ktr_room); (case q9ku => ktr_units); k_whole); (intro z9D z9j z9hc z9hj1 z9hj2 z9T z9nx z9h' z9tk' z9ta' z9F' z9N' z9hK' z9hd' z9hD'; (try (k_dflt (have z9hx' := z9hK' (_, instObj 665 _) (by first | assumption | k_mem) (by first | assumption | k_ne))))); rotate_left; (intro z9hc z9C z9hC z9g z9e z9nx z9h' z9tk' z9FG' z9R' z9U' z9hK'); rotate_left)
  k_with "call ref" => ((with_reducible show wpAny _ _ (PySem.call (Value.ref 326) _) _ _ _); k_here; k_dflt (refine' sethere_spec ?q9kB ?q9kF ?q9kX ?q9kN ?q9kT ?q9kk ?q9kx ?q9kd ?q9kb ?q9ke ?q9k0 ?q9kl ?q9klo ?q9k44 ?q9kXB ?q9kTB ?q9kS ?q9kr ?q9ku ?_ ?_; (case q9kB => k_asm); (case q9kF => k_asm); (case q9kX => k_asm); (case q9kN => k_asm); (case q9kT => k_asm); (case q9kk => first | exact rfl | assumption); (case q9kx => first | k_mem | assumption); (case q9kd => first | k_mem | assumption); (case q9kb => assumption); (case q9ke => assumption); (case q9k0 => first | assumption | omega); (case q9kl => first | assumption | omega); (case q9klo => exact TextOk.lo (by assumption)); (case q9k44 => exact TextOk.no44 (by assumption)); (case q9kXB => assumption); (case q9kTB => assumption); (case q9kS => first | exact set_ne (by assumption) | exact set_ne (set_contains.symm.trans (by assumption))); (case q9kr => ktr_room); (case q9ku => ktr_units); k_whole); (intro z9lo z9hi z9hS z9T z9P z9nx z9h' z9tk' z9ta' z9F' z9N' z9hK' z9hd' z9hT z9hP; (try (k_dflt (have z9hx' := z9hK' (_, instObj 665 _) (by first | assumption | k_mem) (by first | assumption | k_ne))))); rotate_left; (intro z9hS z9g z9e z9nx z9h' z9tk' z9FG' z9R' z9U' z9hK'); rotate_left)
  k_with "call ref" => ((with_reducible show wpAny _ _ (PySem.call (Value.ref 319) _) _ _ _); k_here; k_dflt (refine' keyword_spec ?q9kB ?q9kF ?q9kX ?q9kN ?q9kT ?q9kk ?q9kx ?q9kd ?q9kb ?q9ke ?q9k0 ?q9kl ?q9klo ?q9kr ?q9ku ?_ ?_; (case q9kB => k_asm); (case q9kF => k_asm); (case q9kX => k_asm); (case q9kN => k_asm); (case q9kT => k_asm); (case q9kk => first | exact rfl | assumption); (case q9kx => first | k_mem | assumption); (case q9kd => first | k_mem | assumption); (case q9kb => assumption); (case q9ke => assumption); (case q9k0 => first | assumption | omega); (case q9kl => first | assumption | omega); (case q9klo => exact TextOk.lo (by assumption)); (case q9kr => ktr_room); (case q9ku => ktr_units); k_whole); (intro z9hne z9nx z9h' z9tk' z9ta' z9tv z9F' z9N' z9hK' z9hd'; (try (k_dflt (have z9hx' := z9hK' (_, instObj 665 _) (by first | assumption | k_mem) (by first | assumption | k_ne))))); rotate_left; (intro z9hc z9g z9e z9nx z9h' z9tk' z9FG' z9R' z9U' z9hK'); rotate_left)
  k_with "call ref" => ((with_reducible show wpAny _ _ (PySem.call (Value.ref 319) _) _ _ _); k_here; k_dflt (refine' keyword_none ?q9kB ?q9kF ?q9kX ?q9kN ?q9kT ?q9kk ?q9kx ?q9kd ?q9kb ?q9ke ?q9k0 ?q9kl ?q9klo ?q9kz ?q9kr ?q9ku ?_; (case q9kB => k_asm); (case q9kF => k_asm); (case q9kX => k_asm); (case q9kN => k_asm); (case q9kT => k_asm); (case q9kk => first | exact rfl | assumption); (case q9kx => first | k_mem | assumption); (case q9kd => first | k_mem | assumption); (case q9kb => assumption); (case q9ke => assumption); (case q9k0 => first | assumption | omega); (case q9kl => first | assumption | omega); (case q9klo => exact TextOk.lo (by assumption)); (case q9kz => assumption); (case q9kr => ktr_room); (case q9ku => ktr_units); k_whole); (intro z9g z9e z9nx z9h' z9tk' z9FG' z9R' z9U' z9hK'))
  k_with "call ref" => ((with_reducible show wpAny _ _ (PySem.call (Value.ref 368) _) _ _ _); k_here; k_dflt (refine' flagleaf_spec ?q9kB ?q9kF ?q9kX ?q9kN ?q9kT ?q9kk ?q9kW ?q9kO ?q9k5 ?q9kr ?q9ku ?_ ?_; (case q9kB => k_asm); (case q9kF => k_asm); (case q9kX => k_asm); (case q9kN => k_asm); (case q9kT => k_asm); (case q9kk => first | exact rfl | assumption); (case q9kW => exact wd_fits (by assumption)); (case q9kO => exact wd_not (by assumption) (by assumption)); (case q9k5 => exact fun W2 h hm => wd_un (by assumption) h hm); (case q9kr => ktr_room); (case q9ku => ktr_units); k_whole); (intro z9D z9hl z9T z9nx z9h' z9tk' z9F' z9N' z9hq' z9hD'; (try (k_dflt (have z9hx' := z9hq' (_, instObj 665 _) (by assumption)))); (try (k_dflt (have z9hd' := z9hq' (_, wdict _ _ _ _ _ _ _ _ _) (by assumption))))); rotate_left; (intro z9hl z9nx z9h' z9tk' z9F' z9N' z9hq'; (try (k_dflt (have z9hx' := z9hq' (_, instObj 665 _) (by assumption)))); (try (k_dflt (have z9hd' := z9hq' (_, wdict _ _ _ _ _ _ _ _ _) (by assumption))))); rotate_left)
  k_with "call ref" => ((with_reducible show wpAny _ _ (PySem.call (Value.ref 382) _) _ _ _); k_here; k_dflt (refine' leafof_spec ?q9kB ?q9kF ?q9kX ?q9kN ?q9kT ?q9kk ?q9kx ?q9kd ?q9kb ?q9ke ?q9k0 ?q9kl ?q9kW ?q9kO ?q9kr ?q9ku ?_; (case q9kB => k_asm); (case q9kF => k_asm); (case q9kX => k_asm); (case q9kN => k_asm); (case q9kT => k_asm); (case q9kk => first | exact rfl | assumption); (case q9kx => first | k_mem | assumption); (case q9kd => first | k_mem | assumption); (case q9kb => assumption); (case q9ke => assumption); (case q9k0 => first | assumption | omega); (case q9kl => first | assumption | omega); (case q9kW => exact wd_fits (by assumption)); (case q9kO => exact wd_not (by assumption) (by assumption)); (case q9kr => ktr_room); (case q9ku => ktr_units); k_whole); (intro z9g z9e z9nx z9h' z9tk' z9FG' z9R' z9U' z9hK'))
  k_with "key none" => first
  | exact (step_brk (by assumption)).trans (by assumption)
  | exact step_setN (by assumption) (set_contains.symm.trans (by assumption)) (by assumption)
  | (refine (step_word (by assumption) (by assumption) (set_contains.symm.trans (by assumption))).trans ?_; first
    | exact word_nil (by assumption)
    | exact word_notS (by assumption) (by assumption)
    | exact word_notN (by omega) (by assumption) (by assumption) (by assumption)
    | exact word_or0 (by assumption) (by assumption) (by assumption)
    | exact word_or1 (by omega) (by assumption) (by assumption) (by assumption) (by assumption)
    | exact word_or3 (by omega) (by assumption) (by assumption) (by assumption) (by assumption) (by assumption) (by assumption) (by omega)
    | exact word_or2 (by omega) (by assumption) (by assumption) (by assumption) (by assumption) (by assumption)
    | exact word_leafN (by assumption) (by assumption) (by assumption))
  trivial
theorem key_zero {prog : Program} {w : World} {ks : List Int} (hT : TextOk ks) : Reader prog w 396 ks (Pos0 ks) (keyP ks 0) 21 24 200 := by
  constructor
  intro mean mg mb dp un gd cn cs a ccd cl outer A₀ base h₀ L m news s Q E B F X N T hk x d h1 h2 t1 t2 tb ta tc td b at_ n hx hd hb h0 hl hp XB TB hdp hun ret exc
  have hxd : x ≠ d := inst_apart N hx hd
  have hlen := hT.len
  refine wpAny_call ?_
  k_dflt (walk_at "my enter")
  k_steps
  exact exc rfl _ (.inr rfl) _ _ _ _ _ (by assumption) (by assumption) (by assumption) (by walk_at "kept up")
theorem key_succ {prog : Program} {w : World} {ks : List Int} {key : Key} {dv : Int} {rd ru : Nat} (hT : TextOk ks) (hK : Reader prog w 396 ks (Pos0 ks) key (dv + 1) rd ru) (hB : Reader prog w 389 ks (fun i => pk ks i = 40) (brkP key ks) dv (rd + 2) (ru + 16)) (hrd : 24 ≤ rd) (hru : 200 ≤ ru) (hdv : 0 ≤ dv) (hdv2 : dv ≤ 20) :
    Reader prog w 396 ks (Pos0 ks) (stepP key ks) dv (rd + 3) (ru + 24) := by
  constructor
  intro mean mg mb dp un gd cn cs a ccd cl outer A₀ base h₀ L m news s Q E B F X N T hk x d h1 h2 t1 t2 tb ta tc td b at_ n hx hd hb h0 hl hp XB TB hdp hun ret exc
  have hxd : x ≠ d := inst_apart N hx hd
  have hlen := hT.len
  have hok := hT.good _ (by omega) hp
  have hwl := took_le (p := isL) (ks := ks) (i := at_.toNat) (by omega)
  have hws := took_le (p := isS) (ks := ks) (i := at_.toNat) (by omega)
  have h256 := pk_256 hT.lo (i := at_.toNat)
  by_cases hneg : pk ks at_.toNat < 0
  · have hz := took_neg hT.lo hneg
    refine wpAny_call ?_
    k_dflt (walk_at "my enter")
    k_steps
    all_goals first | (exfalso; omega) | (refine exc (step_neg h0 hneg hz) _ (.inr rfl) _ _ _ _ _ ?_ (by assumption) (by assumption) (by walk_at "kept up"); assumption)
  have hpos : 0 ≤ pk ks at_.toNat := by omega
  refine wpAny_call ?_
  k_dflt (walk_at "my enter")
  k_steps
  all_goals first
    | (refine exc ?_ _ ?_ _ _ _ _ _ ?_ (by assumption) (by assumption) (by walk_at "kept up"); rotate_left 2; assumption; rotate_left; (first | (rename (_ = 95 ∨ _ = 119) => hC; exact hC) | exact .inl rfl | exact .inr rfl); (walk_at "key none"))
    | exact ret _ _ ((step_brk (by assumption)).trans (by assumption)) (by assumption) (by assumption) _ _ _ _ _ (by k_asm) (by k_asm) (by walk_at "kept up") (by walk_at "mem up") (by walk_at "stay up")
    | exact ret _ _ (step_set h0 (by assumption) (set_contains.symm.trans (by assumption)) (by assumption)) (by have := List.length_pos_iff.mpr (set_ne (set_contains.symm.trans (by assumption))); omega) (by omega) _ _ _ _ _ (by k_asm) (by k_asm) (by walk_at "kept up") (by walk_at "mem up") (Stay.of (by k_asm) (by walk_at "mem up") (seq_dat (by assumption) (by assumption)))
    | exact ret _ _ ((step_word (by assumption) (by assumption) (set_contains.symm.trans (by assumption))).trans (word_not (by omega) (by assumption) (by assumption) (by assumption))) (by omega) (by assumption) _ _ _ _ _ (by k_asm) (by k_asm) (by walk_at "kept up") (by walk_at "mem up") (Stay.of (by k_asm) (by walk_at "mem up") (.tuple (vs := [_, _]) (List.Mem.head _) (.cons (.str _ _) (.cons (by walk_at "dat up") .nil))))
    | exact ret _ _ ((step_word (by assumption) (by assumption) (set_contains.symm.trans (by assumption))).trans (word_or (by omega) (by assumption) (by assumption) (by assumption) (by assumption) (by assumption) (by assumption) (by omega))) (by omega) (by assumption) _ _ _ _ _ (by k_asm) (by k_asm) (by walk_at "kept up") (by walk_at "mem up") (Stay.of (by k_asm) (by walk_at "mem up") (.tuple (vs := [_, _, _]) (List.Mem.head _) (.cons (.str _ _) (.cons (by walk_at "dat up") (.cons (by walk_at "dat up") .nil)))))
    | exact ret _ _ ((step_word (by assumption) (by assumption) (set_contains.symm.trans (by assumption))).trans (word_leaf (by assumption) (by assumption) (by assumption))) (by have := List.length_pos_iff.mpr (show took isL ks at_.toNat ≠ [] by assumption); omega) (by omega) _ _ _ _ _ (by k_asm) (by k_asm) (by walk_at "kept up") (by walk_at "mem up") (Stay.of (by k_asm) (by walk_at "mem up") (by assumption))
end Mine
end
section
set_option maxRecDepth 100000
namespace Mine
open PySem PySem.W PyProof.Rows PyProof
section
variable {prog : Program} {w : World} {A : Around} {E : Value → Shared → Prop} {s : Shared} {a b : Int} {t u : Tok} {Q : Value → Shared → Prop}
theorem addK (h : ∀ v k, Q (.int (a + b) v) { s with toks := k }) : wpAny (model prog w) A (binaryOp .Add (.int a t) (.int b u)) Q E s := add_int (h _ _)
theorem subK (h : ∀ v k, Q (.int (a - b) v) { s with toks := k }) : wpAny (model prog w) A (binaryOp .Sub (.int a t) (.int b u)) Q E s := sub_int (h _ _)
theorem mulK (hm : IntMulOk a b) (h : ∀ v k, Q (.int (a * b) v) { s with toks := k }) : wpAny (model prog w) A (binaryOp .Mult (.int a t) (.int b u)) Q E s := mul_int (h _ _) hm
theorem modK (hb : 1 ≤ b) (h : ∀ v k, Q (.int (a.fmod b) v) { s with toks := k }) : wpAny (model prog w) A (binaryOp .Mod (.int a t) (.int b u)) Q E s := mod_int' (by omega) (h _ _)
theorem fdivK (hb : 1 ≤ b) (hb2 : b ≤ 1000) (h : ∀ v k, Q (.int (a.fdiv b) v) { s with toks := k }) : wpAny (model prog w) A (binaryOp .FloorDiv (.int a t) (.int b u)) Q E s := floordiv_int (by omega) (h _ _) (.inl (noPylong_small (by omega)))
end
theorem constK {M : Model} {A : Around} {E : Value → Shared → Prop} {s : Shared} {env : Env} {i : Int} {k : Nat} {pos : Pos} {Q : Value → Shared → Prop} (h : ∀ v k, Q (.int i v) { s with toks := k }) : wpAny M A (eval (.Constant (.int i) k pos) env) Q E s := wpAny_Constant_int (h _ _)
theorem item_pen {prog : Program} {w : World} {A : Around} {E : Value → Shared → Prop} {s : Shared} {h₀ : Heap} {L P : Addr} {rest : List (Addr × Obj)} {xs : Array Value} {n : Nat} {v : Value} {l : List Value} {Q : Value → Shared → Prop} {value slice : PySem.Expr} {i : Int} {u : Tok} (N : News h₀ L s.heap ((P, listOf xs n) :: rest)) (h0 : 0 ≤ i) (h1 : i < 2 ^ 63) (hx : xs.toList.drop i.toNat = v :: l) (h : Q v s)
    (hs : subscripted slice false (.ref P) (.int i u) = operate [.ref P, .int i u] (getItem (.ref P) (.int i u)) := by with_unfolding_all rfl) :
    wpAny (model prog w) A (subscriptTail value slice (.ref P) (.int i u)) Q E s :=
  tail_any (News.isList N (List.Mem.head _)).typeIs slot_list_getitem.lookup (wpAny_getItem_list (News.isList N (List.Mem.head _)) h0 h1 (by
    have := congrArg List.head? hx
    rw [List.head?_drop, List.head?_cons] at this
    rw [← Array.getElem?_toList]; exact this) h) hs
end Mine
end
section
open PySem PySem.W PyProof.Rows
open Lean Elab Tactic Meta
set_option Elab.async false
set_option maxRecDepth 100000
set_option maxHeartbeats 8000000
namespace Mine
structure Mark1 : Prop where
  x : True
theorem isL_no {k : Int} (h1 : ¬ (65 ≤ k ∧ k ≤ 90)) (h2 : ¬ (97 ≤ k ∧ k ≤ 122)) : isL k = false := by
  rw [Bool.eq_false_iff]
  intro q
  simp only [isL, Bool.or_eq_true, Bool.and_eq_true, decide_eq_true_eq] at q
  omega
theorem isL_ok {k : Int} (h : (65 ≤ k ∧ k ≤ 90) ∨ (97 ≤ k ∧ k ≤ 122)) : isL k = true := by
  simp only [isL, Bool.or_eq_true, Bool.and_eq_true, decide_eq_true_eq]
  omega
theorem pk_not44 {ks : List Int} (h : ∀ k ∈ ks, k ≠ (44 : Int)) (i : Nat) : pk ks i ≠ 44 := by
  unfold pk
  rw [List.getD_eq_getElem?_getD]
  by_cases hi : i < ks.length
  · rw [List.getElem?_eq_getElem hi]; exact h _ (List.getElem_mem hi)
  · rw [List.getElem?_eq_none (by omega)]; decide
section
variable {prog : Program} {w : World} {A : Around} {E : Value → Shared → Prop} {s : Shared} {Q : Value → Shared → Prop} {ks : List Int} {e : Int} {t u : Tok} {X : Str}
theorem in_item (hT : TextOk ks) (h0 : 0 ≤ e) (h1 : e < ks.length) (hX : X.cps.toList = [48, 49, 50, 51, 52, 53, 54, 55, 56, 57, 58, 42]) (h : Q (.bool (isS (pk ks e.toNat))) s) :
    wpAny (model prog w) A (compareOp .In (.str (Txt.item (strOf ks) e) t) (.str X u)) Q E s := by
  refine P.in_str ?_
  have hp := pk_lo hT.lo (i := e.toNat) (by omega)
  have h44 : pk ks e.toNat ≠ 44 := pk_not44 hT.no44 _
  rw [item_of h0 h1, in_signs hX hp.1 h44]
  exact h
theorem le_lo {c : Int} (hT : TextOk ks) (h0 : 0 ≤ e) (h1 : e < ks.length) (hX : X.cps.toList = [c.toNat]) (hc : 0 ≤ c) (h : Q (.bool (decide (c ≤ pk ks e.toNat))) s) :
    wpAny (model prog w) A (compareOp .LtE (.str X t) (.str (Txt.item (strOf ks) e) u)) Q E s := by
  refine P.le_str ?_
  have hp := pk_lo hT.lo (i := e.toNat) (by omega)
  have e1 : (!decide ((Txt.item (strOf ks) e).cps.toList < X.cps.toList)) = decide (c ≤ pk ks e.toNat) := by
    rw [item_of h0 h1, hX, Bool.eq_iff_iff]
    simp only [Bool.not_eq_true', decide_eq_false_iff_not, decide_eq_true_eq]
    rw [sing_lt]
    omega
  rw [e1]; exact h
theorem le_hi {c : Int} (hT : TextOk ks) (h0 : 0 ≤ e) (h1 : e < ks.length) (hX : X.cps.toList = [c.toNat]) (hc : 0 ≤ c) (h : Q (.bool (decide (pk ks e.toNat ≤ c))) s) :
    wpAny (model prog w) A (compareOp .LtE (.str (Txt.item (strOf ks) e) u) (.str X t)) Q E s := by
  refine P.le_str ?_
  have hp := pk_lo hT.lo (i := e.toNat) (by omega)
  have e1 : (!decide (X.cps.toList < (Txt.item (strOf ks) e).cps.toList)) = decide (pk ks e.toNat ≤ c) := by
    rw [item_of h0 h1, hX, Bool.eq_iff_iff]
    simp only [Bool.not_eq_true', decide_eq_false_iff_not, decide_eq_true_eq]
    rw [sing_lt]
    omega
  rw [e1]; exact h
end
theorem in_plain {prog : Program} {w : World} {A : Around} {E : Value → Shared → Prop} {s : Shared} {h₀ : Heap} {L d a1 a2 a3 : Addr} {news : List (Addr × Obj)} {o : Obj} {Q : Value → Shared → Prop} {W : Str} {t : Tok}
    (N : News h₀ L s.heap news) (hp : (d, o) ∈ news) (hd : o.IsDictOf (PySem.strKind prog w) [(Str.ofString "ALL", .ref a1), (Str.ofString "UNSEEN", .ref a2), (Str.ofString "NEW", .ref a3)]) (lo : (d == sysModules) = false)
    (h1 : DatIn news (.ref a1) tAll) (h2 : DatIn news (.ref a2) (tNot tFlag)) (h3 : DatIn news (.ref a3) (tNot tAll))
    (yes : ∀ T D, valueAt [(Str.ofString "ALL", Value.ref a1), (Str.ofString "UNSEEN", Value.ref a2), (Str.ofString "NEW", Value.ref a3)] W = some (.ref T) → leafP W = some D → DatIn news (.ref T) D → Q (.bool true) { s with toks := s.toks + 1 })
    (no : leafP W = none → Q (.bool false) { s with toks := s.toks + 1 }) :
    wpAny (model prog w) A (compareOp .In (.str W t) (.ref d)) Q E s := by
  by_cases q1 : W = Str.ofString "ALL"
  · subst q1
    exact kda_in N hp hd lo (strKind_is _ _ _ _) true (by rfl) (yes a1 _ (by rfl) rfl h1)
  by_cases q2 : W = Str.ofString "UNSEEN"
  · subst q2
    exact kda_in N hp hd lo (strKind_is _ _ _ _) true (by rfl) (yes a2 _ (by rfl) rfl h2)
  by_cases q3 : W = Str.ofString "NEW"
  · subst q3
    exact kda_in N hp hd lo (strKind_is _ _ _ _) true (by rfl) (yes a3 _ (by rfl) rfl h3)
  have hl : leafP W = none := by unfold leafP; rw [if_neg q1, if_neg q2, if_neg q3]
  refine kda_in N hp hd lo (strKind_is _ _ _ _) false ?_ (no hl)
  unfold valueAt
  rw [List.find?_cons_of_neg (by simpa using Ne.symm q1), List.find?_cons_of_neg (by simpa using Ne.symm q2), List.find?_cons_of_neg (by simpa using Ne.symm q3)]
  rfl
/-- a scan over a text -/
noncomputable def JScan (p : Int → Bool) (ks : List Int) (i : Int) (m : Str → Option Value) (news : List (Addr × Obj)) (k : Nat) (m₁ : Str → Option Value) (nx : List (Addr × Obj)) : Prop :=
  news = nx ∧ ∃ (e : Int) (te : Tok), (m₁ = fun y => if y = Str.ofString "end" then some (.int e te) else m y) ∧ i ≤ e ∧ e ≤ ks.length ∧ (∀ l : Nat, i ≤ l → l < e → p (ks.getD l 0) = true) ∧ k = ks.length - e.toNat
theorem scan_start {p : Int → Bool} {ks : List Int} {i e : Int} {m : Str → Option Value} {news : List (Addr × Obj)} {te : Tok} (hm : m (Str.ofString "end") = some (.int e te)) (he : e = i) (hl : i ≤ ks.length) : JScan p ks i m news (ks.length - e.toNat) m news := by
  subst he
  refine ⟨rfl, e, te, ?_, Int.le_refl _, hl, fun l a b => absurd a (by omega), rfl⟩
  funext y
  split
  · rename_i h; rw [h]; exact hm
  · rfl
theorem scan_step {g hh : Heap} {L : Addr} {s : Shared} {tk : Nat} {Q : Flow → Shared → Prop} {p : Int → Bool} {ks : List Int} {i e : Int} {m mf : Str → Option Value} {news : List (Addr × Obj)} {te : Tok}
    (F : Fr g L hh mf) (N : News g L hh news) (h0 : 0 ≤ i) (hle : i ≤ e) (hlt : e < ks.length) (hall : ∀ l : Nat, i ≤ l → l < e → p (ks.getD l 0) = true) (hp : p (pk ks e.toNat) = true)
    (hm : mf (Str.ofString "end") = some (.int (e + 1) te)) (hm2 : ∀ y, y ≠ Str.ofString "end" → mf y = m y) :
    WhileStep2 g L s (JScan p ks i m news) Q (ks.length - e.toNat) .next { s with heap := hh, toks := tk } := by
  refine ⟨_, _, _, _, ks.length - (e + 1).toNat, rfl, F, N, by omega, rfl, e + 1, te, ?_, by omega, by omega, fun l h3 h4 => ?_, rfl⟩
  · funext y
    split
    · rename_i h; rw [h]; exact hm
    · rename_i h; exact hm2 y h
  · by_cases h5 : (l : Int) < e
    · exact hall l h3 h5
    · have : l = e.toNat := by omega
      rw [this, ← pk_lt (by omega)]; exact hp
theorem scan_took {p : Int → Bool} {ks : List Int} {i e : Int} (h0 : 0 ≤ i) (hle : i ≤ e) (hl : e ≤ ks.length) (hall : ∀ l : Nat, i ≤ l → l < e → p (ks.getD l 0) = true) (hstop : e < ks.length → p (pk ks e.toNat) = false) : took p ks i.toNat = (ks.drop i.toNat).take (e.toNat - i.toNat) ∧ i + (took p ks i.toNat).length = e := by
  have e1 : took p ks i.toNat = (ks.drop i.toNat).take (e.toNat - i.toNat) := took_of (by omega) (by omega) (fun l a b => hall l (by omega) (by omega)) (fun hlt => by rw [← pk_lt hlt]; exact hstop (by omega))
  have := took_length (by omega) (by omega) e1
  exact ⟨e1, by omega⟩
theorem upper_K {prog : Program} {w : World} {A : Around} {E : Value → Shared → Prop} {s : Shared} {Q : Value → Shared → Prop} {ks : List Int} {i e : Int} {t : Tok} (hT : TextOk ks) (h0 : 0 ≤ i) (hle : i ≤ e) (hl : e ≤ ks.length) (hall : ∀ l : Nat, i ≤ l → l < e → isL (ks.getD l 0) = true) (hstop : e < ks.length → isL (pk ks e.toNat) = false)
    (h : ∀ t' k, Q (.str (strOf ((took isL ks i.toNat).map upL)) t') { s with toks := k }) : wpAny (model prog w) A (call (.builtin "str.upper") [.str (Txt.slice (strOf ks) (some i) (some e)) t]) Q E s := by
  obtain ⟨e1, e2⟩ := scan_took h0 hle hl hall hstop
  have e3 : Txt.slice (strOf ks) (some i) (some e) = strOf (took isL ks i.toNat) := by rw [slice_ij h0 hle hl, e1]
  have e4 := upper_letters (l := took isL ks i.toNat) took_all
  rw [e3]
  refine SCL.upper (by rw [strOf_length]; exact Nat.le_trans (took_fits hT.len) (by decide)) (fun _ => ?_)
  rw [e4]
  exact h _ _
section
variable {prog : Program} {w : World} {mean : ExcName → Option Value} {mg mb : Str → Option Value}
    {dp un : Nat} {gd : Option (List Code)} {cn : Str} {cs : Scope} {a : Addr} {ccd : Value} {cl : List (Str × Addr)} {outer : List Env} {A₀ : Around} {base h₀ : Heap} {L : Addr} {m : Str → Option Value} {news : List (Addr × Obj)} {s : Shared}
    {Q E : Value → Shared → Prop}
    (B : Below A₀ base outer h₀) (F : Fr h₀ L s.heap m) (X : (Mine.laid.heap_1 w.params).In h₀) (N : News h₀ L s.heap news) (T : Top Mine.vw LL mean mg mb h₀) (hk : cs.kind = .function)
include B F X N T hk
theorem pair_use {ks : List Int} {i e : Int} {tt : Tok} (hT : TextOk ks) (h0 : 0 ≤ i) (hle : i ≤ e) (hl : e ≤ ks.length) (hall : ∀ l : Nat, i ≤ l → l < e → isS (ks.getD l 0) = true)
    (hdp : dp + 4 < recursionLimit) (hun : un + 100 < cLine)
    (none : setP ((ks.drop i.toNat).take (e.toNat - i.toNat)) = none → ∀ nx h' tk', Fr h₀ L h' m → News h₀ L h' nx → (∀ p ∈ news, p ∈ nx) → Q .none { s with heap := h', toks := tk' })
    (some : ∀ lo hi, setP ((ks.drop i.toNat).take (e.toNat - i.toNat)) = some (lo, hi) → ∀ P t1 t2 nx h' tk', Fr h₀ L h' m → News h₀ L h' nx → (∀ p ∈ news, p ∈ nx) → (P, ({ cls := .type "tuple", data := .seq #[.int lo t1, .int hi t2] } : Obj)) ∈ nx → Q (.ref P) { s with heap := h', toks := tk' }) :
    wpAny (model prog w) (ktrTop dp un gd cn cs L a ccd cl outer) (call (.ref 682) [.str (Txt.slice (strOf ks) (.some i) (.some e)) tt]) Q E s := by
  have hmem : ∀ k ∈ (ks.drop i.toNat).take (e.toNat - i.toNat), k ∈ ks := fun k hk => List.mem_of_mem_drop (List.mem_of_mem_take hk)
  have hs : ∀ k ∈ (ks.drop i.toNat).take (e.toNat - i.toNat), isD k = true ∨ k = 42 ∨ k = 58 := by
    intro k hk
    obtain ⟨n, hn, rfl⟩ := List.mem_iff_getElem.mp hk
    have h44 := hT.no44 _ (hmem _ hk)
    rw [List.length_take, List.length_drop] at hn
    have := hall (i.toNat + n) (by omega) (by omega)
    rw [List.getElem_take, List.getElem_drop] at h44 ⊢
    rw [List.getD_eq_getElem?_getD, List.getElem?_eq_getElem (by omega), Option.getD_some] at this
    simp only [isS, Bool.or_eq_true, Bool.and_eq_true, decide_eq_true_eq] at this
    rw [isD_iff]
    omega
  have e1 := set_pair hs
  rw [e1] at none some
  exact pair_spec B F X N T hk (slice_ij h0 hle hl) (Nat.le_trans (by rw [List.length_take, List.length_drop]; omega) hT.len) (fun k hk => hT.lo k (hmem k hk)) hs hdp hun none some
end
section
variable {key : Key} {ks : List Int} {W : Str} {e j q : Int} {D D2 : Dat}
theorem wl_leaf (h : leafP W = some D) : wordP key ks W e.toNat = some (D, e.toNat) := by
  refine word_leaf ?_ ?_ h
  · rw [beq_eq_false_iff_ne]; rintro rfl
    unfold leafP at h
    rw [if_neg (by decide), if_neg (by decide), if_neg (by decide)] at h
    cases h
  · rw [beq_eq_false_iff_ne]; rintro rfl
    unfold leafP at h
    rw [if_neg (by decide), if_neg (by decide), if_neg (by decide)] at h
    cases h
theorem wl_none (hl : leafP W = none) (h : ([Str.ofString "NOT", Str.ofString "OR"].any fun x => x == W) = false) : wordP key ks W e.toNat = none := by
  simp only [List.any_cons, List.any_nil, Bool.or_false, Bool.or_eq_false_iff, beq_eq_false_iff_ne] at h
  refine word_leafN ?_ ?_ hl <;> rw [beq_eq_false_iff_ne]
  · exact Ne.symm h.1
  · exact Ne.symm h.2
theorem wl_sp (hl : leafP W = none) (hb : pk ks e.toNat ≠ 32) : wordP key ks W e.toNat = none := by
  by_cases q1 : W = Str.ofString "NOT"
  · exact word_notS (by rw [q1]; decide) hb
  by_cases q2 : W = Str.ofString "OR"
  · exact word_or0 (by rw [beq_eq_false_iff_ne]; exact q1) (by rw [q2]; decide) hb
  · exact word_leafN (by rw [beq_eq_false_iff_ne]; exact q1) (by rw [beq_eq_false_iff_ne]; exact q2) hl
theorem wl_one (hl : leafP W = none) (h0 : 0 ≤ e) (hb : pk ks e.toNat = 32) (hk : key (e + 1).toNat = none) : wordP key ks W e.toNat = none := by
  by_cases q1 : W = Str.ofString "NOT"
  · exact word_notN h0 (by rw [q1]; decide) hb hk
  by_cases q2 : W = Str.ofString "OR"
  · exact word_or1 h0 (by rw [beq_eq_false_iff_ne]; exact q1) (by rw [q2]; decide) hb hk
  · exact word_leafN (by rw [beq_eq_false_iff_ne]; exact q1) (by rw [beq_eq_false_iff_ne]; exact q2) hl
theorem wl_or (h : ([Str.ofString "NOT", Str.ofString "OR"].any fun x => x == W) = true) (h1 : (W == Str.ofString "NOT") = false) : (W == Str.ofString "OR") = true := by
  simp only [List.any_cons, List.any_nil, Bool.or_false, Bool.or_eq_true, beq_iff_eq] at h
  rw [beq_eq_false_iff_ne] at h1
  rcases h with h | h
  · exact absurd h.symm h1
  · rw [beq_iff_eq]; exact h.symm
end
theorem lk_word {ks : List Int} {key : Key} {i e1 e2 : Int} (h0 : 0 ≤ i) (h40 : pk ks i.toNat ≠ 40) (hl1 : i ≤ e1) (hn : ¬ i < e1) (hs1 : e1 < ks.length → isS (pk ks e1.toNat) = false) (hl2 : i ≤ e2) (hh2 : e2 ≤ ks.length) (ha2 : ∀ l : Nat, i ≤ l → l < e2 → isL (ks.getD l 0) = true) (hs2 : e2 < ks.length → isL (pk ks e2.toNat) = false) :
    stepP key ks i.toNat = wordP key ks (strOf ((took isL ks i.toNat).map upL)) e2.toNat := by
  have e : i = e1 := by omega
  have hS : isS (pk ks i.toNat) = false := by
    by_cases h : e1 < ks.length
    · rw [e]; exact hs1 h
    · rw [pk_ge (by omega)]; decide
  rw [step_word h0 h40 hS, (scan_took h0 hl2 hh2 ha2 hs2).2]
theorem lk_set {ks : List Int} {key : Key} {i e1 : Int} (h0 : 0 ≤ i) (h40 : pk ks i.toNat ≠ 40) (hl1 : i ≤ e1) (hn : i < e1) (hh1 : e1 ≤ ks.length) (ha1 : ∀ l : Nat, i ≤ l → l < e1 → isS (ks.getD l 0) = true) (hs1 : e1 < ks.length → isS (pk ks e1.toNat) = false) :
    (setP ((ks.drop i.toNat).take (e1.toNat - i.toNat)) = none → stepP key ks i.toNat = none) ∧ ∀ lo hi, setP ((ks.drop i.toNat).take (e1.toNat - i.toNat)) = some (lo, hi) → stepP key ks i.toNat = some (tSeq lo hi, e1.toNat) := by
  obtain ⟨q1, q2⟩ := scan_took h0 hl1 hh1 ha1 hs1
  have hS : isS (pk ks i.toNat) = true := by rw [pk_lt (by omega)]; exact ha1 _ (by omega) (by omega)
  rw [← q1]
  refine ⟨fun h => step_setN h40 hS h, fun lo hi h => ?_⟩
  rw [step_set h0 h40 hS h, q2]
theorem lk_pos {ks : List Int} {i e2 : Int} {D : Dat} (h0 : 0 ≤ i) (hl2 : i ≤ e2) (hh2 : e2 ≤ ks.length) (ha2 : ∀ l : Nat, i ≤ l → l < e2 → isL (ks.getD l 0) = true) (hs2 : e2 < ks.length → isL (pk ks e2.toNat) = false) (h : leafP (strOf ((took isL ks i.toNat).map upL)) = some D) : i < e2 := by
  have q := (scan_took h0 hl2 hh2 ha2 hs2).2
  by_cases e : took isL ks i.toNat = []
  · rw [e] at h; exact absurd h (by rw [show leafP (strOf (([] : List Int).map upL)) = none by decide]; exact fun h => by cases h)
  · have := List.length_pos_iff.mpr e
    omega
/-- where a loop is left: all its exits together -/
noncomputable def LoopOut (h₀ : Heap) (L : Addr) (s : Shared) (Post : (Str → Option Value) → List (Addr × Obj) → Prop) (Q : Flow → Shared → Prop) (fl : Flow) (s₂ : Shared) : Prop :=
  match fl with
  | .next => ∃ h' tk m' nx, s₂ = { s with heap := h', toks := tk } ∧ Fr h₀ L h' m' ∧ News h₀ L h' nx ∧ Post m' nx
  | f => Q f s₂
theorem While_K {prog : Program} {w : World} {A : Around} {env : Env} {E : Value → Shared → Prop} {s : Shared} {h₀ : Heap} {L : Addr} {m : Str → Option Value} {news : List (Addr × Obj)} {Q : Flow → Shared → Prop} {test : PySem.Expr} {body : List Stmt} {pos : Pos} (J : (Str → Option Value) → Nat → (Str → Option Value) → List (Addr × Obj) → Prop) {n₀ : Nat}
    (Post : (Str → Option Value) → List (Addr × Obj) → (Str → Option Value) → List (Addr × Obj) → Prop) (F : Fr h₀ L s.heap m) (N : News h₀ L s.heap news) (hJ : J m n₀ m news)
    (turn : ∀ n m₁ news₁ h₁ tk₁, Fr h₀ L h₁ m₁ → News h₀ L h₁ news₁ → J m n m₁ news₁ →
      wpAny (model prog w) A (isTrue test env (eval test env)) (fun b s₂ =>
        if b = true then wpAny (model prog w) A (execs body env) (WhileStep2 h₀ L s (J m) (LoopOut h₀ L s (Post m news) Q) n) E s₂ else LoopOut h₀ L s (Post m news) Q .next s₂) E { s with heap := h₁, toks := tk₁ })
    (fin : ∀ h' tk m' nx, Fr h₀ L h' m' → News h₀ L h' nx → Post m news m' nx → Q .next { s with heap := h', toks := tk })
    (hE : PassesOwn (model prog w) A env E) :
    wpAny (model prog w) A (exec (.While test body [] pos) env) Q E s := by
  refine wpAny_mono (While_J J F N hJ turn hE) (fun fl s₂ h => ?_) fun _ _ x => x
  cases fl with
  | next =>
    obtain ⟨h', tk, m', nx, rfl, F', N', hp⟩ := h
    exact fin h' tk m' nx F' N' hp
  | ret v => exact h
  | brk => exact h
  | cont => exact h
noncomputable def ScanOut (p : Int → Bool) (ks : List Int) (i : Int) (m : Str → Option Value) (news : List (Addr × Obj)) (m' : Str → Option Value) (nx : List (Addr × Obj)) : Prop :=
  news = nx ∧ ∃ (e : Int) (te : Tok), (m' = fun y => if y = Str.ofString "end" then some (.int e te) else m y) ∧ i ≤ e ∧ e ≤ ks.length ∧ (∀ l : Nat, i ≤ l → l < e → p (ks.getD l 0) = true) ∧ (e < ks.length → p (pk ks e.toNat) = false)
theorem scan_out {g h' : Heap} {L : Addr} {s : Shared} {tk : Nat} {Q : Flow → Shared → Prop} {p : Int → Bool} {ks : List Int} {i e : Int} {te : Tok} {m : Str → Option Value} {news : List (Addr × Obj)} (hle : i ≤ e) (hhi : e ≤ ks.length) (hall : ∀ l : Nat, i ≤ l → l < e → p (ks.getD l 0) = true) (hstop : e < ks.length → p (pk ks e.toNat) = false)
    (F : Fr g L h' (fun y => if y = Str.ofString "end" then some (.int e te) else m y)) (N : News g L h' news) : LoopOut g L s (ScanOut p ks i m news) Q .next { s with heap := h', toks := tk } :=
  ⟨h', tk, _, _, rfl, F, N, rfl, e, te, rfl, hle, hhi, hall, hstop⟩
theorem key_nil {ks : List Int} {i : Nat} : keyP ks 0 i = none := rfl
theorem walkWords23 : True := by
  w_top off
  k_with_none
  k_with "my enter" => ((refine' code_def ?q9k1 ?q9k2 ?q9k3 ?q9k4 ?q9k5 ?q9kA ?q9kF ?q9kK ?q9k6 ?q9k7 ?q9k8 ?q9k9 ?q9kB ?_ ?q9c2 ?q9c3 ?q9c4 ?q9c5; (case q9kA => exact rfl); (case q9kF => exact rfl); (case q9kK => first | exact rfl | assumption); (case q9k1 => k_asm); (case q9k2 => k_asm); (case q9k3 => k_asm); (case q9k4 => k_asm); (case q9k5 => k_asm); (case q9k6 => k_is); (case q9k7 => k_is); (case q9k8 => ktr_room); (case q9k9 => first | exact binds_K (by k_in) rfl (by k_is) rfl rfl rfl | exact BindsTo.of_eq rfl); (case q9c5 => decide); (case q9kB => exact locs rfl); (case q9c2 => exact rfl); (case q9c3 => exact rfl); (case q9c4 => exact rfl); k_whole; intro z9g' z9L' z9h' z9FG' z9F' z9N' z9B' z9X' z9T'; (try dsimp only); (try k_fold)))
  k_with "mem up" => (repeat (first | with_reducible assumption | exact List.mem_cons_self | refine List.mem_cons_of_mem _ ?_))
  k_with "dat sub" => (repeat (first | with_reducible assumption | refine DatIn.mono (fun p hp => List.mem_cons_of_mem _ hp) ?_ | refine DatIn.mono (by with_reducible assumption : ∀ p ∈ _, p ∈ _) ?_))
  k_with "sub up" => (repeat (first | with_reducible assumption | refine List.mem_cons_of_mem _ ?_ | (refine (by with_reducible assumption : ∀ p ∈ _, p ∈ _) _ ?_)))
  k_with "LoopOut" => (k_dflt (refine' scan_out ?q9a ?q9b ?q9c ?q9d ?q9F ?q9N; (case q9a => assumption); (case q9b => assumption); (case q9c => assumption); (case q9F => k_asm); (case q9N => k_asm); (case q9d => (intro z9hlt'; (try simp only [decide_eq_true_eq, decide_eq_false_iff_not] at *); first | assumption | exact isL_no (by omega) (by omega) | (exfalso; omega)))))
  k_with "WhileStep2" => (k_dflt (refine' scan_step ?q9F ?q9N ?q9z ?q9a ?q9b ?q9c ?q9d ?q9e ?q9f; (case q9F => k_asm); (case q9N => k_asm); (case q9z => assumption); (case q9a => assumption); (case q9b => omega); (case q9c => assumption); (case q9d => ((try simp only [decide_eq_true_eq, decide_eq_false_iff_not] at *); first | assumption | exact isL_ok (by omega))); (case q9e => exact rfl); (case q9f => (intro z9y z9q1; simp only [if_neg z9q1]))))
  k_with "call ref" => ((with_reducible show wpAny _ _ (PySem.call (Value.ref 689) _) _ _ _); k_here; k_dflt (refine' lreader_use ?q9kH ?q9kB ?q9kF ?q9kX ?q9kN ?q9kT ?q9kk ?q9k0 ?q9kl ?q9kr ?q9ku ?_ ?_; (case q9kH => assumption); (case q9kB => k_asm); (case q9kF => k_asm); (case q9kX => k_asm); (case q9kN => k_asm); (case q9kT => k_asm); (case q9kk => first | exact rfl | assumption); (case q9k0 => first | assumption | omega); (case q9kl => first | assumption | omega | exact sl_in (by assumption) (by omega) (by assumption) | exact sl_inn (by assumption) (by omega) (by assumption)); (case q9kr => ktr_room); (case q9ku => ktr_units); k_whole); (intro z9hc z9nx z9h' z9tk' z9F' z9N' z9hs'); rotate_left; (intro z9D z9j z9hc z9hj1 z9hj2 z9R z9T z9tj z9nx z9h' z9tk' z9F' z9N' z9hs' z9hR' z9hD'; (try (k_dflt (have z9hRx' := z9hs' (_, ({ cls := .type "tuple", data := .seq #[.ref _, .int _ _] } : Obj)) (by first | assumption | (walk_at "mem up"; done)))))); rotate_left)
  k_with "call ref" => ((with_reducible show wpAny _ _ (PySem.call (Value.ref 696) _) _ _ _); k_here; k_dflt (refine' lreader_use ?q9kH ?q9kB ?q9kF ?q9kX ?q9kN ?q9kT ?q9kk ?q9k0 ?q9kl ?q9kr ?q9ku ?_ ?_; (case q9kH => assumption); (case q9kB => k_asm); (case q9kF => k_asm); (case q9kX => k_asm); (case q9kN => k_asm); (case q9kT => k_asm); (case q9kk => first | exact rfl | assumption); (case q9k0 => first | assumption | omega); (case q9kl => first | assumption | omega | exact sl_in (by assumption) (by omega) (by assumption) | exact sl_inn (by assumption) (by omega) (by assumption)); (case q9kr => ktr_room); (case q9ku => ktr_units); k_whole); (intro z9hc z9nx z9h' z9tk' z9F' z9N' z9hs'); rotate_left; (intro z9D z9j z9hc z9hj1 z9hj2 z9R z9T z9tj z9nx z9h' z9tk' z9F' z9N' z9hs' z9hR' z9hD'; (try (k_dflt (have z9hRx' := z9hs' (_, ({ cls := .type "tuple", data := .seq #[.ref _, .int _ _] } : Obj)) (by first | assumption | (walk_at "mem up"; done)))))); rotate_left)
  k_with "subscriptTail" => (k_here; (with_reducible show wpAny _ _ (subscriptTail _ _ (Value.ref _) (Value.int _ _)) _ _ _); k_dflt (refine' item_tupleT (l := [Value.ref _, Value.int _ _]) (News.isTup ?q9N ?q9m) ?q9a ?q9b ?q9c ?q9d ?_ ?q9e; (case q9N => k_asm); (case q9m => first | assumption | (walk_at "mem up"; done)); (case q9a => decide); (case q9b => decide); (case q9c => exact rfl); (case q9d => exact rfl); (case q9e => with_unfolding_all rfl); k_whole))
  k_with "compareOp In str str" => (k_here; (with_reducible show wpAny _ _ (compareOp CmpOp.In (Value.str _ _) (Value.str _ _)) _ _ _); k_dflt (refine' in_item ?q9T ?q9a ?q9b ?q9c ?_; (case q9T => with_reducible assumption); (case q9a => first | with_reducible assumption | omega); (case q9b => first | with_reducible assumption | omega); (case q9c => decide); k_whole))
  k_with "compareOp LtE str str" => (k_here; k_dflt (first
  | (((with_reducible show wpAny _ _ (compareOp CmpOp.LtE (Value.str (Str.ofString "a") _) (Value.str (Txt.item _ _) _)) _ _ _)); refine' le_lo (c := 97) (X := Str.ofString "a") ?q9T ?q9a ?q9b ?q9c ?q9d ?_; (case q9T => with_reducible assumption); (case q9a => first | with_reducible assumption | omega); (case q9b => first | with_reducible assumption | omega); (case q9c => decide); (case q9d => decide); k_whole)
  | (((with_reducible show wpAny _ _ (compareOp CmpOp.LtE (Value.str (Txt.item _ _) _) (Value.str (Str.ofString "z") _)) _ _ _)); refine' le_hi (c := 122) (X := Str.ofString "z") ?q9T ?q9a ?q9b ?q9c ?q9d ?_; (case q9T => with_reducible assumption); (case q9a => first | with_reducible assumption | omega); (case q9b => first | with_reducible assumption | omega); (case q9c => decide); (case q9d => decide); k_whole)
  | (((with_reducible show wpAny _ _ (compareOp CmpOp.LtE (Value.str (Str.ofString "A") _) (Value.str (Txt.item _ _) _)) _ _ _)); refine' le_lo (c := 65) (X := Str.ofString "A") ?q9T ?q9a ?q9b ?q9c ?q9d ?_; (case q9T => with_reducible assumption); (case q9a => first | with_reducible assumption | omega); (case q9b => first | with_reducible assumption | omega); (case q9c => decide); (case q9d => decide); k_whole)
  | (((with_reducible show wpAny _ _ (compareOp CmpOp.LtE (Value.str (Txt.item _ _) _) (Value.str (Str.ofString "Z") _)) _ _ _)); refine' le_hi (c := 90) (X := Str.ofString "Z") ?q9T ?q9a ?q9b ?q9c ?q9d ?_; (case q9T => with_reducible assumption); (case q9a => first | with_reducible assumption | omega); (case q9b => first | with_reducible assumption | omega); (case q9c => decide); (case q9d => decide); k_whole)))
  k_with "call builtin:str.upper" => (k_here; k_dflt (refine' upper_K ?q9T ?q9a ?q9b ?q9c ?q9d ?q9e ?_; (case q9T => with_reducible assumption); (case q9a => assumption); (case q9b => assumption); (case q9c => assumption); (case q9d => assumption); (case q9e => assumption); k_whole); intro z9t' z9k')
  k_with "compareOp In str ref" => (k_here; k_dflt (refine' in_plain ?q9N ?q9p ?q9d ?q9l ?q9a ?q9b ?q9c ?_ ?_; (case q9N => k_asm); (case q9p => k_mem); (case q9d => k_asm); (case q9l => k_asm); (case q9a => exact .tuple (vs := [_]) (by walk_at "mem up") (.cons (.str _ _) .nil)); (case q9b => exact .tuple (vs := [_, _]) (by walk_at "mem up") (.cons (.str _ _) (.cons (.tuple (vs := [_, _]) (by walk_at "mem up") (.cons (.str _ _) (.cons (.str _ _) .nil))) .nil))); (case q9c => exact .tuple (vs := [_, _]) (by walk_at "mem up") (.cons (.str _ _) (.cons (.tuple (vs := [_]) (by walk_at "mem up") (.cons (.str _ _) .nil)) .nil))); k_whole); (intro z9T' z9D' z9hv' z9hl' z9hD'); rotate_left; (intro z9hl'); rotate_left)
  k_with "subscriptTail" => (k_here; (with_reducible show wpAny _ _ (subscriptTail _ _ (Value.ref _) (Value.str _ _)) _ _ _); k_dflt (refine' kda_item (knd := PySem.strKind _ _) ?q9N ?q9p ?q9d (strKind_is _ _ _ _) ?q9v ?_; (case q9N => k_asm); (case q9p => k_mem); (case q9d => k_asm); (case q9v => assumption); k_whole))
  k_with "call ref" => ((with_reducible show wpAny _ _ (PySem.call (Value.ref 682) _) _ _ _); k_here; k_dflt (refine' pair_use ?q9kB ?q9kF ?q9kX ?q9kN ?q9kT ?q9kk ?q9kH ?q9k0 ?q9k1 ?q9k2 ?q9ka ?q9kr ?q9ku ?_ ?_; (case q9kB => k_asm); (case q9kF => k_asm); (case q9kX => k_asm); (case q9kN => k_asm); (case q9kT => k_asm); (case q9kk => first | exact rfl | assumption); (case q9kH => assumption); (case q9k0 => assumption); (case q9k1 => first | assumption | omega); (case q9k2 => assumption); (case q9ka => assumption); (case q9kr => ktr_room); (case q9ku => ktr_units); k_whole); (intro z9hc z9nx z9h' z9tk' z9F' z9N' z9hs'); rotate_left; (intro z9lo z9hi z9hc z9P z9t1 z9t2 z9nx z9h' z9tk' z9F' z9N' z9hs' z9hP'); rotate_left)
  k_with "eval Constant int" => (k_here; (with_reducible refine constK ?_); intro z9v9 z9k9; (try dsimp only))
  k_with "binaryOp Add int int" => (k_here; (with_reducible refine addK ?_); intro z9v9 z9k9; (try dsimp only))
  k_with "binaryOp Sub int int" => (k_here; (with_reducible refine subK ?_); intro z9v9 z9k9; (try dsimp only))
  k_with "binaryOp Mult int int" => (k_here; (with_reducible refine mulK (by mul_fits) ?_); intro z9v9 z9k9; (try dsimp only))
  k_with "binaryOp Mod int int" => (k_here; (with_reducible refine modK (by omega) ?_); intro z9v9 z9k9; (try dsimp only))
  k_with "binaryOp FloorDiv int int" => (k_here; (with_reducible refine fdivK (by omega) (by omega) ?_); intro z9v9 z9k9; (try dsimp only))
  k_with "eval Dict cons cons" => (k_here; k_dflt (refine' kdn_str ?q9q ?q9F ?q9N ?q9b ?q9a ?q9l ?q9e ?q9n ?_; (case q9q => rfl); (case q9F => k_asm); (case q9N => k_asm); (case q9b => exact Top.nolimit (by k_asm)); (case q9a => rfl); (case q9l => rfl); (case q9e => exact List.cons_ne_nil _ _); (case q9n => exact Nat.le_of_ble_eq_true rfl)); intro z9d' z9h' z9o' z9F' z9N' z9l1 z9lo' z9hd'; (try k_lt z9l1))
  trivial
theorem lkey_zero {prog : Program} {w : World} {ks : List Int} (hT : TextOk ks) : LReader prog w 689 ks (keyP ks 0) 21 10 120 := by
  constructor
  intro mean mg mb dp un gd cn cs a ccd cl outer A₀ base h₀ L m news s Q E B F X N T hk tt ta td at_ h0 hl hdp hun none some
  refine wpAny_call ?_
  k_dflt (walk_at "my enter")
  k_steps
  exact none key_nil _ _ _ (by k_asm) (by k_asm) (fun q hq => hq)
theorem lkey_succ {prog : Program} {w : World} {ks : List Int} {key : Key} {dv : Int} {rd ru : Nat} (hT : TextOk ks) (hK : LReader prog w 689 ks key (dv + 1) rd ru) (hR : LReader prog w 696 ks (rowP key ks) (dv + 1) (rd + 1) (ru + 8)) (hrd : 10 ≤ rd) (hru : 120 ≤ ru) (hdv : 0 ≤ dv) (hdv2 : dv ≤ 20) :
    LReader prog w 689 ks (stepP key ks) dv (rd + 2) (ru + 16) := by
  constructor
  intro mean mg mb dp un gd cn cs a ccd cl outer A₀ base h₀ L m news s Q E B F X N T hk tt ta td at_ h0 hl hdp hun none some
  have hlen := hT.len
  have hsl := strOf_length (ks := ks)
  have hmark : Mark1 := ⟨trivial⟩
  refine wpAny_call ?_
  k_dflt (walk_at "my enter")
  k_with "exec While BoolOp cons nil" => first
    | (k_here; (rename Mark1 => hmk); (rename Fr _ _ _ _ => hFw); (rename News _ _ _ _ => hNw); k_dflt (refine' While_K (fun mm => JScan isS ks at_ mm _) (ScanOut isS ks at_) hFw hNw (scan_start (by rfl) rfl hl) ?_ ?_ (by passes_own); k_whole; clear hFw hNw hmk); (rintro kk mm nx hh1 tk1 F1 N1 ⟨rfl, e1, te1, rfl, hlo1, hhi1, hall1, rfl⟩); rotate_left; (rintro hh1 tk1 mm nx F1 N1 ⟨rfl, e1, te1, rfl, hlo1, hhi1, hall1, hst1⟩); rotate_left)
    | (k_here; (rename Fr _ _ _ _ => hFw); (rename News _ _ _ _ => hNw); k_dflt (refine' While_K (fun mm => JScan isL ks at_ mm _) (ScanOut isL ks at_) hFw hNw (scan_start (by rfl) (by omega) hl) ?_ ?_ (by passes_own); k_whole; clear hFw hNw); (rintro kk mm nx hh1 tk1 F1 N1 ⟨rfl, e2, te2, rfl, hlo2, hhi2, hall2, rfl⟩); rotate_left; (rintro hh1 tk1 mm nx F1 N1 ⟨rfl, e2, te2, rfl, hlo2, hhi2, hall2, hst2⟩); rotate_left)
  k_steps
  · exfalso; omega
  · exact none ((step_brk (op_yes hT h0 (by assumption))).trans (brk_none h0 (by assumption))) _ _ _ (by k_asm) (by k_asm) (fun q hq => by walk_at "sub up")
  · exact none ((step_brk (op_yes hT h0 (by assumption))).trans (brk_not h0 (by assumption) (cl_nno hT (by omega) (by assumption)))) _ _ _ (by k_asm) (by k_asm) (fun q hq => by walk_at "sub up")
  · exact some _ _ ((step_brk (op_yes hT h0 (by assumption))).trans (brk_some h0 (by assumption) (by omega) (cl_nyes hT (by omega) (by assumption)))) (by omega) (sl_inn hT (by omega) (by assumption)) _ _ _ _ _ _ (by k_asm) (by k_asm) (fun q hq => by walk_at "sub up") (by walk_at "mem up") (by walk_at "dat sub")
  · exact none ((lk_set h0 (op_no hT h0 (by assumption)) hlo1 (by assumption) hhi1 hall1 hst1).1 (by assumption)) _ _ _ (by k_asm) (by k_asm) (fun q hq => by walk_at "sub up")
  · exact some _ _ ((lk_set h0 (op_no hT h0 (by assumption)) hlo1 (by assumption) hhi1 hall1 hst1).2 _ _ (by assumption)) (by assumption) hhi1 _ _ _ _ _ _ (by k_asm) (by k_asm) (fun q hq => by walk_at "sub up") (by walk_at "mem up")
      (.tuple (vs := [_, _]) (by walk_at "mem up") (.cons (.str _ _) (.cons (.tuple (vs := [_]) (by walk_at "mem up") (.cons (.tuple (vs := [_, _]) (by walk_at "mem up") (.cons (.int _ _) (.cons (.int _ _) .nil))) .nil)) .nil)))
  all_goals have hW := lk_word (key := key) h0 (op_no hT h0 (by assumption)) hlo1 (by assumption) hst1 hlo2 hhi2 hall2 hst2
  · exact some _ _ (hW.trans (wl_leaf (by assumption))) (lk_pos h0 hlo2 hhi2 hall2 hst2 (by assumption)) hhi2 _ _ _ _ _ _ (by k_asm) (by k_asm) (fun q hq => by walk_at "sub up") (by walk_at "mem up") (by walk_at "dat sub")
  · exact none (hW.trans (wl_sp (by assumption) (sp_nno hT (by omega) (by assumption)))) _ _ _ (by k_asm) (by k_asm) (fun q hq => by walk_at "sub up")
  · exact none (hW.trans (wl_one (by assumption) (by omega) (sp_nyes hT (by omega) (by assumption)) (by assumption))) _ _ _ (by k_asm) (by k_asm) (fun q hq => by walk_at "sub up")
  · exact some _ _ (hW.trans (word_not (by omega) (by assumption) (sp_nyes hT (by omega) (by assumption)) (by assumption))) (by omega) (by assumption) _ _ _ _ _ _ (by k_asm) (by k_asm) (fun q hq => by walk_at "sub up") (by walk_at "mem up")
      (.tuple (vs := [_, _]) (by walk_at "mem up") (.cons (.str _ _) (.cons (by walk_at "dat sub") .nil)))
  · exact none (hW.trans (word_or3 (by omega) (by assumption) (wl_or (by assumption) (by assumption)) (sp_nyes hT (by omega) (by assumption)) (by assumption) (sp_yes hT (by omega) (by assumption)) (by assumption) (by omega))) _ _ _ (by k_asm) (by k_asm) (fun q hq => by walk_at "sub up")
  · exact some _ _ (hW.trans (word_or (by omega) (by assumption) (wl_or (by assumption) (by assumption)) (sp_nyes hT (by omega) (by assumption)) (by assumption) (sp_yes hT (by omega) (by assumption)) (by assumption) (by omega))) (by omega) (by assumption) _ _ _ _ _ _ (by k_asm) (by k_asm) (fun q hq => by walk_at "sub up") (by walk_at "mem up")
      (.tuple (vs := [_, _, _]) (by walk_at "mem up") (.cons (.str _ _) (.cons (by walk_at "dat sub") (.cons (by walk_at "dat sub") .nil))))
  · exact none (hW.trans (word_or2 (by omega) (by assumption) (wl_or (by assumption) (by assumption)) (sp_nyes hT (by omega) (by assumption)) (by assumption) (sp_no hT (by omega) (by assumption)))) _ _ _ (by k_asm) (by k_asm) (fun q hq => by walk_at "sub up")
  · exact none (hW.trans (wl_none (by assumption) (by assumption))) _ _ _ (by k_asm) (by k_asm) (fun q hq => by walk_at "sub up")
end Mine
end
section
open PySem PySem.W PyProof.Rows
open Lean Elab Tactic Meta
set_option Elab.async false
set_option maxRecDepth 100000
set_option maxHeartbeats 8000000
namespace Mine
theorem lkeys_all {prog : Program} {w : World} {ks : List Int} (hT : TextOk ks) : ∀ f : Nat, f ≤ 21 → LReader prog w 689 ks (keyP ks f) (21 - f) (2 * f + 10) (16 * f + 120)
  | 0, _ => lkey_zero hT
  | f + 1, hf => by
    have ih := lkeys_all (prog := prog) (w := w) hT f (by omega)
    have e : (21 : Int) - f = (21 - (f + 1 : Nat) : Int) + 1 := by omega
    rw [e] at ih
    have hR := lrow_spec hT ih (by omega) (by omega)
    have hS := lkey_succ hT ih hR (by omega) (by omega) (by omega) (by omega)
    rw [show 2 * (f + 1) + 10 = 2 * f + 10 + 2 by omega, show 16 * (f + 1) + 120 = 16 * f + 120 + 16 by omega]
    exact hS
theorem lrows_all {prog : Program} {w : World} {ks : List Int} (hT : TextOk ks) : LReader prog w 696 ks (rowP (keyP ks 21) ks) 0 53 464 := lrow_spec hT (lkeys_all hT 21 (Nat.le_refl _)) (by omega) (by omega)
end Mine
end
section
open PySem PySem.W PyProof.Rows
open Lean Elab Tactic Meta
set_option Elab.async false
set_option maxRecDepth 100000
set_option maxHeartbeats 8000000
namespace Mine
theorem keys_all {prog : Program} {w : World} {ks : List Int} (hT : TextOk ks) : ∀ f : Nat, f ≤ 21 → Reader prog w 396 ks (Pos0 ks) (keyP ks f) (21 - f) (3 * f + 24) (24 * f + 200)
  | 0, _ => key_zero hT
  | f + 1, hf => by
    have ih := keys_all (prog := prog) (w := w) hT f (by omega)
    have e : (21 : Int) - f = (21 - (f + 1 : Nat) : Int) + 1 := by omega
    rw [e] at ih
    have hR := row_spec hT ih (by omega) (by omega)
    have hB := brk_spec hT hR (by omega) (by omega) (by omega) (by omega)
    have hS := key_succ hT ih hB (by omega) (by omega) (by omega) (by omega)
    rw [show 3 * (f + 1) + 24 = 3 * f + 24 + 3 by omega, show 24 * (f + 1) + 200 = 24 * f + 200 + 24 by omega]
    exact hS
theorem rows_all {prog : Program} {w : World} {ks : List Int} (hT : TextOk ks) : Reader prog w 403 ks (Pos0 ks) (rowP (keyP ks 21) ks) 0 88 712 := row_spec hT (keys_all hT 21 (Nat.le_refl _)) (by omega) (by omega)
end Mine
end
section
open PySem PySem.W PyProof.Rows
open Lean Elab Tactic Meta
set_option Elab.async false
set_option maxRecDepth 100000
set_option maxHeartbeats 8000000
namespace Mine
theorem All2.ints {ks : List Int} {ys : List Value} (h : All2 (fun k v => ∃ t, v = Value.int k t) ks ys) : IntsAre ys ks := by
  induction h with
  | nil => exact .nil
  | cons q _ ih =>
    obtain ⟨t, rfl⟩ := q
    exact .cons _ _ ih
theorem pos_zero {ks : List Int} : Pos0 ks (0 : Int).toNat := .inl rfl
section
variable {prog : Program} {w : World} {fn : Addr} {ks : List Int} {pre : Nat → Prop} {key : Key} {dv : Int} {rd ru : Nat} (h : Reader prog w fn ks pre key dv rd ru)
include h
theorem row_two {mean : ExcName → Option Value} {mg mb : Str → Option Value} {dp un : Nat} {gd : Option (List Code)} {cn : Str} {cs : Scope} {a : Addr} {ccd : Value} {cl : List (Str × Addr)} {outer : List Env} {A₀ : Around} {base h₀ : Heap} {L : Addr} {m : Str → Option Value} {news : List (Addr × Obj)} {s : Shared}
    {Q E : Value → Shared → Prop} (B : Below A₀ base outer h₀) (F : Fr h₀ L s.heap m) (X : (Mine.laid.heap_1 w.params).In h₀) (N : News h₀ L s.heap news) (T : Top Mine.vw LL mean mg mb h₀) (hk : cs.kind = .function)
    {x d : Addr} {h1 h2 : Int} {t1 t2 tb ta tc td : Tok} {b : Array UInt8} {at_ : Int} {n : Nat} (hx : (x, instObj 665 d) ∈ news) (hd : (d, wdict h1 h2 t1 t2 tb ta b at_ n) ∈ news) (hb : KBw.bInts b = ks) (h0 : 0 ≤ at_) (hl : at_ ≤ ks.length) (hp : pre at_.toNat)
    (XB : (Mine.laid.heap_1 w.params).In base) (TB : Top Mine.vw LL mean mg mb base) (hr : dp + rd < recursionLimit) (hu : un + ru < cLine)
    (yes : ∀ D (j : Int), key at_.toNat = some (D, j.toNat) → at_ < j → j ≤ ks.length → ∀ T nx h' tk' ta', Fr h₀ L h' m → News h₀ L h' nx → Kept d news nx → (d, wdict h1 h2 t1 t2 tb ta' b j n) ∈ nx → Stay d nx (.ref T) D → Q (.ref T) { s with heap := h', toks := tk' })
    (n1 : key at_.toNat = none → ∀ g e nx h' tk', Fr h₀ L g m → RaisedSN base g (envX cn cs L a ccd cl :: outer) e (.ref 95) nx h' → g.UpToSlots h' → Kept d news nx → E (.ref e) { s with heap := h', toks := tk' })
    (n2 : key at_.toNat = none → ∀ g e nx h' tk', Fr h₀ L g m → RaisedSN base g (envX cn cs L a ccd cl :: outer) e (.ref 119) nx h' → g.UpToSlots h' → Kept d news nx → E (.ref e) { s with heap := h', toks := tk' }) :
    wpAny (model prog w) (ktrTop dp un gd cn cs L a ccd cl outer) (call (.ref fn) [.ref x, .str (Str.ofString "utf-8") tc, .int dv td]) Q E s :=
  h.use B F X N T hk hx hd hb h0 hl hp XB TB hr hu yes fun hn C hC => by
    rcases hC with rfl | rfl
    · exact n1 hn
    · exact n2 hn
end
theorem walkWords24 : True := by
  w_top off
  k_with_none
  k_with "my enter" => ((refine' code_def ?q9k1 ?q9k2 ?q9k3 ?q9k4 ?q9k5 ?q9kA ?q9kF ?q9kK ?q9k6 ?q9k7 ?q9k8 ?q9k9 ?q9kB ?_ ?q9c2 ?q9c3 ?q9c4 ?q9c5; (case q9kA => exact rfl); (case q9kF => exact rfl); (case q9kK => first | exact rfl | assumption); (case q9k1 => k_asm); (case q9k2 => k_asm); (case q9k3 => k_asm); (case q9k4 => k_asm); (case q9k5 => k_asm); (case q9k6 => k_is); (case q9k7 => k_is); (case q9k8 => ktr_room); (case q9k9 => first | exact binds_K (by k_in) rfl (by k_is) rfl rfl rfl | exact BindsTo.of_eq rfl); (case q9c5 => decide); (case q9kB => exact locs rfl); (case q9c2 => exact rfl); (case q9c3 => exact rfl); (case q9c4 => exact rfl); k_whole; intro z9g' z9L' z9h' z9FG' z9F' z9N' z9B' z9X' z9T'; (try dsimp only); (try k_fold)))
  k_with "kept up" => (repeat (first | exact Kept.refl _ _ | with_reducible assumption | refine Kept.cons ?_ _ | refine Kept.trans ?_ (by with_reducible assumption) | refine Kept.sub ?_ (by with_reducible assumption)))
  k_with "dat up" => first | with_reducible assumption | (refine Stay.use (by with_reducible assumption) ?_; (repeat (first | exact Kept.refl _ _ | with_reducible assumption | refine Kept.cons ?_ _ | refine Kept.trans ?_ (by with_reducible assumption) | refine Kept.sub ?_ (by with_reducible assumption))))
  k_with "stay up" => first | with_reducible assumption | (refine Stay.kept (by with_reducible assumption) ?_; (repeat (first | exact Kept.refl _ _ | with_reducible assumption | refine Kept.cons ?_ _ | refine Kept.trans ?_ (by with_reducible assumption) | refine Kept.sub ?_ (by with_reducible assumption))))
  k_with "mem up" => (repeat (first | with_reducible assumption | refine List.mem_cons_of_mem _ ?_))
  k_with "call ref" => ((with_reducible show wpAny _ _ (PySem.call (Value.ref 403) _) _ _ _); k_here; k_dflt (refine' row_two ?q9kH ?q9kB ?q9kF ?q9kX ?q9kN ?q9kT ?q9kk ?q9kx ?q9kd ?q9kb ?q9k0 ?q9kl ?q9kp ?q9kXB ?q9kTB ?q9kr ?q9ku ?_ ?_ ?_; (case q9kH => assumption); (case q9kB => k_asm); (case q9kF => k_asm); (case q9kX => k_asm); (case q9kN => k_asm); (case q9kT => k_asm); (case q9kk => first | exact rfl | assumption); (case q9kx => first | k_mem | assumption); (case q9kd => first | k_mem | assumption); (case q9kb => assumption); (case q9k0 => first | assumption | omega); (case q9kl => first | assumption | omega | exact step_in (by omega) (by assumption) (by decide)); (case q9kp => first | assumption | exact pos_blank (by omega) (by assumption) | exact pos_open (by omega) (by assumption)); (case q9kXB => assumption); (case q9kTB => assumption); (case q9kr => ktr_room); (case q9ku => ktr_units); k_whole); (intro z9D z9j z9hc z9hj1 z9hj2 z9T z9nx z9h' z9tk' z9ta' z9F' z9N' z9hK' z9hd' z9hD'; (try (k_dflt (have z9hx' := z9hK' (_, instObj 665 _) (by first | assumption | k_mem) (by first | assumption | k_ne))))); rotate_left; (intro z9hc z9g z9e z9nx z9h' z9tk' z9FG' z9R' z9U' z9hK'); rotate_left; (intro z9hc z9g z9e z9nx z9h' z9tk' z9FG' z9R' z9U' z9hK'); rotate_left)
  k_with "call ref" => (k_here; (with_reducible show wpAny _ _ (PySem.call (Value.ref 665) _) _ _ _); k_dflt ((refine' call_cls ?q9k1 ?q9k2 ?q9k3 ?q9k4 ?q9k5 ?q9k6 ?_; (case q9k1 => k_asm); (case q9k2 => k_asm); (case q9k3 => k_asm); (case q9k4 => k_is); (case q9k5 => k_is); (case q9k6 => k_is)); k_whole; intro z9x' z9d' z9h' z9F' z9N' z9l1 z9l2; (have z9hfr' := fun (p : Addr × Obj) hp => Nat.ne_of_lt (z9l1 p hp)); (try k_lt z9l1); (try k_lt2 z9l2); (try k_sweep); (walk_at "my enter")))
  k_with "SrcS" => (k_here; k_dflt (refine' SrcS.intro (res := fun k v => ∃ t, v = Value.int k t) rfl ?q9F ?q9N ?q9hb ?q9hlen ?_ ?_; (case q9F => k_asm); (case q9N => k_asm); (case q9hb => exact fun k hk => (TextOk.lo (by assumption) k hk).1); (case q9hlen => exact TextOk.len (by assumption))); (intro z9k' z9t' z9I' z9oI' z9C' z9oC' z9D' z9m2 z9ys' z9h' z9tk' z9E' z9hk' z9hC' z9hx' z9F' z9N' z9off' z9ne'; (obtain ⟨z9hr1', z9hr2'⟩ := (TextOk.lo (by assumption) _ z9hk'))); rotate_left; (intro z9g' z9ys' z9hy' z9D' z9h' z9tk' z9F' z9N' z9off'); rotate_left)
  k_with "EltEnd" => exact ⟨_, _, rfl, by k_asm, by k_asm, _, by first | rfl | (congr 1; omega)⟩
  k_with "call type:bytes" => (k_here; (with_reducible show wpAny _ _ (call (Value.type "bytes") [Value.ref _]) _ _ _); k_dflt (refine' KBa.make_K ?q9kbaF ?q9kbaN ?q9kbah ?q9kbal ?q9kbai ?q9kbar ?q9kban ?_; (case q9kbaF => k_asm); (case q9kbaN => k_asm); (case q9kbah => rfl); (case q9kbal => exact News.isList (by k_asm) (by k_mem)); (case q9kbai => exact All2.ints (by assumption)); (case q9kbar => exact fun k hk => ⟨(TextOk.lo (by assumption) k hk).1, Int.lt_trans (TextOk.lo (by assumption) k hk).2 (by decide)⟩); (case q9kban => exact Nat.le_trans (TextOk.len (by assumption)) (by decide)); k_whole); intro z9h' z9t' z9k' z9F' z9N' z9hB'; (have z9hBI := KBa.ints_make z9hB'))
  k_with "eval ListComp" => (k_here; k_dflt (refine ListComp_S (F₀ := by k_asm) (by with_unfolding_all rfl) (by decide) (by rfl) (by decide) (by rfl) ?_))
  k_with "enter S" => (refine' code_defS0 ?q9k1 ?q9k2 ?q9k3 ?q9k4 ?q9k5 ?q9kA ?q9k6 ?q9k7 ?q9k8 ?q9k9 ?q9kB ?_ ?q9cK ?q9c2 ?q9c3 ?q9c4 ?q9c5; (case q9kA => exact rfl); (case q9k2 => k_asm); (case q9k1 => k_asm); (case q9k3 => k_asm); (case q9k4 => k_asm); (case q9k5 => k_asm); (case q9k6 => k_is); (case q9k7 => k_is); (case q9k8 => ktr_room); (case q9k9 => first | exact binds_K (by k_in) rfl (by k_is) rfl rfl rfl | exact BindsTo.of_eq rfl); (case q9kB => exact locs rfl); (case q9cK => first | exact rfl | assumption); (case q9c2 => exact rfl); (case q9c3 => exact rfl); (case q9c4 => exact rfl); (case q9c5 => decide); k_whole; intro z9g' z9L' z9h' z9FG' z9F' z9N' z9B' z9X' z9T' z9D'; (try dsimp only); (try k_fold))
  trivial
theorem heard_spec {prog : Program} {w : World} {mean : ExcName → Option Value} {mg mb : Str → Option Value}
    {dp un : Nat} {gd : Option (List Code)} {cn : Str} {cs : Scope} {a : Addr} {ccd : Value} {A₀ : Around} {base h₀ : Heap} {L : Addr} {m : Str → Option Value} {news : List (Addr × Obj)} {s : Shared}
    {Q E : Value → Shared → Prop}
    (B : Below A₀ base [] h₀) (F : Fr h₀ L s.heap m) (X : (Mine.laid.heap_1 w.params).In h₀) (N : News h₀ L s.heap news) (T : Top Mine.vw LL mean mg mb h₀) (hk : cs.kind = .function)
    {ks : List Int} {tt : Tok} (XB : (Mine.laid.heap_1 w.params).In base) (TB : Top Mine.vw LL mean mg mb base) (hT : TextOk ks)
    (hdp : dp + 100 < recursionLimit) (hun : un + 800 < cLine)
    (none : rowP (keyP ks 21) ks 0 = none → ∀ nx h' tk', Fr h₀ L h' m → News h₀ L h' nx → (∀ p ∈ news, p ∈ nx) → Q .none { s with heap := h', toks := tk' })
    (some : ∀ D (j : Int), rowP (keyP ks 21) ks 0 = some (D, j.toNat) → 0 ≤ j → ∀ R T tj nx h' tk', Fr h₀ L h' m → News h₀ L h' nx → (∀ p ∈ news, p ∈ nx) → (R, ({ cls := .type "tuple", data := .seq #[.ref T, .int j tj] } : Obj)) ∈ nx → DatIn nx (.ref T) D → Q (.ref R) { s with heap := h', toks := tk' }) :
    wpAny (model prog w) (ktrTop dp un gd cn cs L a ccd [] []) (call (.ref 701) [.str (strOf ks) tt]) Q E s := by
  have hR := rows_all (prog := prog) (w := w) hT
  have hlen := hT.len
  have hp0 := pos_zero (ks := ks)
  refine wpAny_call ?_
  k_dflt (walk_at "enter S")
  k_steps
  all_goals (rename (Kept _ _ _) => hKq; rename (∀ (p : Addr × Obj), p ∈ _ → p.1 ≠ _) => hfq)
  · rename (Stay _ _ _ _) => hSq
    exact some _ _ (by assumption) (by omega) _ _ _ _ _ _ (by k_asm) (by k_asm) (fun p hp => List.mem_cons_of_mem _ (hKq p (by walk_at "mem up") (hfq p (by walk_at "mem up")))) (List.Mem.head _) (DatIn.mono (fun p hp => List.mem_cons_of_mem _ hp) (hSq.use (Kept.refl _ _)))
  all_goals exact none (by assumption) _ _ _ (by k_asm) (by k_asm) (fun p hp => hKq p (by walk_at "mem up") (hfq p (by walk_at "mem up")))
end Mine
end
section
open PySem PySem.W PyProof.Rows
open Lean Elab Tactic Meta
set_option Elab.async false
set_option maxRecDepth 100000
set_option maxHeartbeats 8000000
namespace Mine
/-- the law's pen -/
noncomputable abbrev penO (S : Addr) (p q r : Int) (tp tq tr : Tok) (n : Nat) : Obj := listOf #[Value.ref S, .int p tp, .int q tq, .int r tr] n
section
variable {prog : Program} {w : World} {A : Around} {E : Value → Shared → Prop} {s : Shared} {h₀ : Heap} {L S : Addr} {news : List (Addr × Obj)} {vs : List Value} {ns : List Int} {k : Nat} {Q : Value → Shared → Prop}
theorem len_S (N : News h₀ L s.heap news) (hm : (S, listOf vs.toArray k) ∈ news) (hi : IntsAre vs ns) (hl : ns.length ≤ 63) (h : ∀ t k, Q (.int ns.length t) { s with toks := k }) : wpAny (model prog w) A (call (.builtin "len") [.ref S]) Q E s := by
  have e : (vs.toArray.size : Nat) = ns.length := by rw [List.size_toArray, hi.length]
  exact PyProof.Rows.len_list (News.isList N hm) (by rw [e]; omega) (by rw [e]; exact h _ _)
theorem item_S {value slice : PySem.Expr} {i : Int} {u : Tok} (N : News h₀ L s.heap news) (hm : (S, listOf vs.toArray k) ∈ news) (hi : IntsAre vs ns) (hl : ns.length ≤ 63) (h0 : 0 ≤ i) (h1 : i < ns.length) (h : ∀ z t, Q (.int z t) s)
    (hs : subscripted slice false (.ref S) (.int i u) = operate [.ref S, .int i u] (getItem (.ref S) (.int i u)) := by with_unfolding_all rfl) :
    wpAny (model prog w) A (subscriptTail value slice (.ref S) (.int i u)) Q E s := by
  have hlt : i.toNat < ns.length := by omega
  obtain ⟨t, e⟩ := hi.get i.toNat ns[i.toNat] (List.getElem?_eq_getElem hlt)
  exact tail_any (News.isList N hm).typeIs slot_list_getitem.lookup (wpAny_getItem_list (News.isList N hm) h0 (by omega) (by simpa using e) (h _ t)) hs
end
theorem pow18 {prog : Program} {w : World} {A : Around} {E : Value → Shared → Prop} {s : Shared} {t u : Tok} {Q : Value → Shared → Prop} (h : ∀ c v k, 0 ≤ c → Q (.int c v) { s with toks := k }) : wpAny (model prog w) A (binaryOp .Pow (.int 10 t) (.int 18 u)) Q E s :=
  pow_int_small (by decide) (by decide) (by decide) (h _ _ _ (by rw [show (10 : Int) ^ (18 : Int).toNat = 1000000000000000000 by decide +kernel]; decide))
theorem abs_K {prog : Program} {w : World} {A : Around} {E : Value → Shared → Prop} {s : Shared} {z : Int} {t : Tok} {Q : Value → Shared → Prop} (h : ∀ y t' k, 0 ≤ y → Q (.int y t') { s with toks := k }) : wpAny (model prog w) A (call (.builtin "abs") [.int z t]) Q E s := by
  refine call_abs_int ?_
  intro v k
  exact h _ _ _ (by by_cases q : z < 0 <;> simp only [q, if_true, if_false] <;> omega)
section
variable {prog : Program} {w : World} {mean : ExcName → Option Value} {mg mb : Str → Option Value}
    {dp un : Nat} {gd : Option (List Code)} {cn : Str} {cs : Scope} {a : Addr} {ccd : Value} {cl : List (Str × Addr)} {outer : List Env} {A₀ : Around} {base h₀ : Heap} {L : Addr} {m : Str → Option Value} {news : List (Addr × Obj)} {s : Shared}
    {Q E : Value → Shared → Prop}
    (B : Below A₀ base outer h₀) (F : Fr h₀ L s.heap m) (X : (Mine.laid.heap_1 w.params).In h₀) (N : News h₀ L s.heap news) (T : Top Mine.vw LL mean mg mb h₀) (hk : cs.kind = .function)
include B F X N T hk
theorem walkWords25 : True := by
  w_top off
  k_with_none
  k_with "my enter" => ((refine' code_def ?q9k1 ?q9k2 ?q9k3 ?q9k4 ?q9k5 ?q9kA ?q9kF ?q9kK ?q9k6 ?q9k7 ?q9k8 ?q9k9 ?q9kB ?_ ?q9c2 ?q9c3 ?q9c4 ?q9c5; (case q9kA => exact rfl); (case q9kF => exact rfl); (case q9kK => first | exact rfl | assumption); (case q9k1 => k_asm); (case q9k2 => k_asm); (case q9k3 => k_asm); (case q9k4 => k_asm); (case q9k5 => k_asm); (case q9k6 => k_is); (case q9k7 => k_is); (case q9k8 => ktr_room); (case q9k9 => first | exact binds_K (by k_in) rfl (by k_is) rfl rfl rfl | exact BindsTo.of_eq rfl); (case q9c5 => decide); (case q9kB => exact locs rfl); (case q9c2 => exact rfl); (case q9c3 => exact rfl); (case q9c4 => exact rfl); k_whole; intro z9g' z9L' z9h' z9FG' z9F' z9N' z9B' z9X' z9T'; (try dsimp only); (try k_fold)))
  k_with "call builtin:abs" => (k_here; k_dflt (refine abs_K ?_); intro z9y' z9t' z9k' z9hy'; (try dsimp only))
  k_with "eval Constant int" => (k_here; (with_reducible refine constK ?_); intro z9v9 z9k9; (try dsimp only))
  k_with "binaryOp Add int int" => (k_here; (with_reducible refine addK ?_); intro z9v9 z9k9; (try dsimp only))
  k_with "binaryOp Sub int int" => (k_here; (with_reducible refine subK ?_); intro z9v9 z9k9; (try dsimp only))
  k_with "binaryOp Mult int int" => (k_here; (with_reducible refine mulK (by mul_fits) ?_); intro z9v9 z9k9; (try dsimp only))
  k_with "binaryOp Mod int int" => (k_here; (with_reducible refine modK (by omega) ?_); intro z9v9 z9k9; (try dsimp only))
  k_with "binaryOp FloorDiv int int" => (k_here; (with_reducible refine fdivK (by omega) (by omega) ?_); intro z9v9 z9k9; (try dsimp only))
  k_with "binaryOp Pow int int" => (k_here; k_dflt (refine pow18 ?_); intro z9c18 z9v18 z9k18 z9hc18; (try dsimp only))
  k_with "mem up" => (repeat (first | with_reducible assumption | exact List.mem_cons_self | refine List.mem_cons_of_mem _ ?_))
  k_with "call builtin:len" => (k_here; (with_reducible show wpAny _ _ (call (Value.builtin _) [Value.ref _]) _ _ _); k_dflt (refine' len_S ?q9N ?q9m ?q9i ?q9l ?_; (case q9N => k_asm); (case q9m => walk_at "mem up"); (case q9i => assumption); (case q9l => assumption); k_whole); intro z9t' z9k'; (try dsimp only))
  k_with "subscriptTail" => (k_here; (with_reducible show wpAny _ _ (subscriptTail _ _ (Value.ref _) (Value.int _ _)) _ _ _); k_dflt (refine' item_S ?q9N ?q9m ?q9i ?q9l ?q9a ?q9b ?_ ?q9e; (case q9N => k_asm); (case q9m => (walk_at "mem up"; done)); (case q9i => assumption); (case q9l => assumption); (case q9a => omega); (case q9b => omega); (case q9e => with_unfolding_all rfl); k_whole); intro z9z' z9t')
  k_with "setItem ref int" => (k_here; k_dflt (refine' ki_set ?q9F ?q9N ?q9a ?q9b ?q9e (Upd.head ?q9u) ?_; (case q9F => k_asm); (case q9N => k_asm); (case q9a => decide); (case q9b => decide); (case q9e => rfl); (case q9u => assumption)); (intro z9h' z9F' z9N'; (try dsimp only [List.nil_append, List.cons_append] at z9N')))
  k_with "subscriptTail Name Constant ref int" => (k_here; k_dflt (refine' item_pen ?q9N ?q9a ?q9b ?q9x ?_ ?q9e; (case q9N => k_asm); (case q9a => decide); (case q9b => decide); (case q9x => exact rfl); (case q9e => with_unfolding_all rfl); k_whole))
  trivial
theorem draw_spec {P S : Addr} {p q r mv : Int} {tp tq tr tm : Tok} {n k : Nat} {vs : List Value} {ns : List Int} {rest : List (Addr × Obj)} (hne : news = (P, penO S p q r tp tq tr n) :: rest) (hPr : ∀ z ∈ rest, z.1 ≠ P) (hS : (S, listOf vs.toArray k) ∈ rest) (hi : IntsAre vs ns) (hl : ns.length ≤ 63)
    (hp : 0 ≤ p) (hp2 : p ≤ 1000) (hr : 0 ≤ r) (hr2 : r < 1009) (hm : 1 ≤ mv) (hm2 : mv ≤ 16)
    (hdp : dp + 4 < recursionLimit) (hun : un + 64 < cLine) 
    (ret : ∀ v p' q' tv tp' tq' h' tk', Fr h₀ L h' m → News h₀ L h' ((P, penO S p' q' r tp' tq' tr n) :: rest) → 0 ≤ v → v < mv → p ≤ p' → p' ≤ p + 1 → Q (.int v tv) { s with heap := h', toks := tk' }) :
    wpAny (model prog w) (ktrTop dp un gd cn cs L a ccd cl outer) (call (.ref 677) [.ref P, .int mv tm]) Q E s := by
  subst hne
  have hlen := hi.length
  refine wpAny_call ?_
  k_dflt (walk_at "my enter")
  k_steps
  all_goals refine ret _ _ _ _ _ _ _ _ (by k_asm) (by k_asm) ?_ ?_ ?_ ?_
  all_goals first
    | exact Int.fmod_nonneg_of_pos _ (by omega)
    | exact Int.fmod_lt_of_pos _ (by omega)
    | omega
end
end Mine
end
section
set_option maxRecDepth 100000
namespace Mine
open PySem PySem.W PyProof.Rows PyProof
/-- the text grows by a word of the law -/
theorem word_facts : ∀ wd ∈ lawWords, ∀ bl ∈ lawBlanks, (bl ++ wd).length ≤ 8 ∧ (bl ++ wd).count 32 ≤ 2 ∧ ∀ k ∈ bl ++ wd, (0 ≤ k ∧ k < (128 : Int)) ∧ k ≠ 44 := by decide
theorem ok_nil : TextOk [] := ⟨Nat.zero_le _, fun k h => (by cases h), fun k h => (by cases h), good_nil⟩
theorem ok_grow {ks wd bl : List Int} (h : TextOk ks) (hw : wd ∈ lawWords) (hb : bl ∈ lawBlanks) (hl : ks.length ≤ 9000) : TextOk (ks ++ (bl ++ wd)) := by
  obtain ⟨f1, f2, f3⟩ := word_facts wd hw bl hb
  refine ⟨by rw [List.length_append]; omega, fun k hk => ?_, fun k hk => ?_, good_grow h.good hw hb⟩
  · rcases List.mem_append.mp hk with q | q
    · exact h.lo k q
    · exact (f3 k q).1
  · rcases List.mem_append.mp hk with q | q
    · exact h.no44 k q
    · exact (f3 k q).2
/-- what the law keeps between its turns -/
structure Grown (ks : List Int) (i : Nat) : Prop where
  ok : TextOk ks
  len : ks.length ≤ 8 * i
  cnt : ks.count 32 ≤ 2 * i
theorem grown_nil : Grown [] 0 := ⟨ok_nil, Nat.le_refl _, Nat.le_refl _⟩
theorem grown_next {ks wd bl : List Int} {i : Nat} (h : Grown ks i) (hi : i < 16) (hw : wd ∈ lawWords) (hb : bl ∈ lawBlanks) : Grown (ks ++ (bl ++ wd)) (i + 1) := by
  obtain ⟨f1, f2, f3⟩ := word_facts wd hw bl hb
  have h1 := h.len
  have h2 := h.cnt
  exact ⟨ok_grow h.ok hw hb (by omega), by rw [List.length_append]; omega, by rw [List.count_append]; omega⟩
/-- the deep texts -/
noncomputable def deepN (n : Nat) : List Int := (List.replicate n [78, 79, 84, 32]).flatten ++ [65, 76, 76]
noncomputable def deepB (n : Nat) : List Int := List.replicate n 40 ++ [55, 32, 55] ++ List.replicate n 41
noncomputable def okAtB (l : List Int) : Bool := l.isEmpty || !isL (l.headD 0) || six.any fun p => p.isPrefixOf l
theorem okAt_of {l : List Int} (h : okAtB l = true) : OkAt l := by
  simp only [okAtB, Bool.or_eq_true, List.isEmpty_iff, Bool.not_eq_true', List.any_eq_true, List.isPrefixOf_iff_prefix] at h
  rcases h with (h | h) | h
  · exact .inl h
  · exact .inr (.inl h)
  · exact .inr (.inr h)
noncomputable def textB (ks : List Int) : Bool := decide (ks.length ≤ 100) && ks.all (fun k => decide (0 ≤ k) && decide (k < 128) && decide (k ≠ 44)) && decide (ks.count 32 ≤ 40) && (List.range (ks.length + 1)).all fun i => !(i == 0 || pk ks (i - 1) == 32 || pk ks (i - 1) == 40) || okAtB (ks.drop i)
theorem text_of {ks : List Int} (h : textB ks = true) : TextOk ks ∧ ks.count 32 ≤ 40 := by
  simp only [textB, Bool.and_eq_true, decide_eq_true_eq, List.all_eq_true, List.mem_range] at h
  obtain ⟨⟨⟨h1, h2⟩, h3⟩, h4⟩ := h
  refine ⟨⟨by omega, fun k hk => (h2 k hk).1, fun k hk => (h2 k hk).2, fun i hi hP => ?_⟩, h3⟩
  have := h4 i (by omega)
  rw [Bool.or_eq_true] at this
  rcases this with q | q
  · exfalso
    simp only [Bool.not_eq_true', Bool.or_eq_false_iff, beq_eq_false_iff_ne] at q
    rcases hP with e | e | e
    · exact q.1.1 e
    · exact q.1.2 e
    · exact q.2 e
  · exact okAt_of q
noncomputable def deepOk (ks : List Int) (n : Nat) : Bool := textB ks && ((rowP (keyP ks 21) ks 0).isNone == decide (20 < n))
theorem deep_all : ∀ n ∈ [18, 19, 20, 21, 22], deepOk (deepN n) n = true ∧ deepOk (deepB n) n = true := by decide +kernel
theorem deep_of {ks : List Int} {n : Nat} (h : deepOk ks n = true) : TextOk ks ∧ ks.count 32 ≤ 40 ∧ (rowP (keyP ks 21) ks 0 = none ↔ 20 < n) := by
  rw [deepOk, Bool.and_eq_true, beq_iff_eq] at h
  obtain ⟨h1, h2⟩ := h
  obtain ⟨h3, h4⟩ := text_of h1
  refine ⟨h3, h4, ?_⟩
  rw [← Option.isNone_iff_eq_none, h2, decide_eq_true_eq]
theorem deep_in {n : Nat} (h1 : 18 ≤ n) (h2 : n ≤ 22) : n ∈ [18, 19, 20, 21, 22] := by
  simp only [List.mem_cons, List.not_mem_nil, or_false]; omega
theorem deepN_ok {n : Nat} (h1 : 18 ≤ n) (h2 : n ≤ 22) : TextOk (deepN n) ∧ (deepN n).count 32 ≤ 40 ∧ (rowP (keyP (deepN n) 21) (deepN n) 0 = none ↔ 20 < n) := deep_of (deep_all n (deep_in h1 h2)).1
theorem deepB_ok {n : Nat} (h1 : 18 ≤ n) (h2 : n ≤ 22) : TextOk (deepB n) ∧ (deepB n).count 32 ≤ 40 ∧ (rowP (keyP (deepB n) 21) (deepB n) 0 = none ↔ 20 < n) := deep_of (deep_all n (deep_in h1 h2)).2
end Mine
end
section
set_option maxRecDepth 100000
namespace Mine
open PySem PySem.W PyProof.Rows PyProof PySem.Spec PySem.Calls
theorem strOf_cat {a b : List Int} {X Y : Str} (hX : X = strOf a) (hY : Y = strOf b) : X ++ Y = strOf (a ++ b) := by
  subst hX hY
  show Str.mk (_ ++ _) = _
  unfold strOf
  rw [List.map_append]
  simp
section
variable {prog : Program} {w : World} {A : Around} {E : Value → Shared → Prop} {s : Shared} {Q : Value → Shared → Prop} {t u : Tok}
theorem add_ks {a b : List Int} {X Y : Str} (hX : X = strOf a) (hY : Y = strOf b) (hl : a.length + b.length ≤ 10000) (h : ∀ v k, Q (.str (strOf (a ++ b)) v) { s with toks := k }) :
    wpAny (model prog w) A (binaryOp .Add (.str X t) (.str Y u)) Q E s := by
  refine add_str (fun v k => ?_) (by rw [hX, hY, strOf_length, strOf_length, sizeLine_eq]; omega)
  rw [strOf_cat hX hY]; exact h v k
/-- the words of the law, one at a place -/
noncomputable def isWord : Value → Bool
  | .str x _ => lawWords.any fun wd => strOf wd == x
  | _ => false
theorem word_item {K : Frag} {h₀ : Heap} {L a : Addr} {m : Str → Option Value} {value slice : PySem.Expr} {l : List Value} {dd : Option Addr} {sl : Array (Option Value)} {n : Nat} {k : Int} (F : Fr h₀ L s.heap m) (X : K.In h₀) (hl : K.lookup a = some ⟨.type "tuple", dd, .seq l.toArray n, sl⟩)
    (h0 : 0 ≤ k) (h1 : k < 10) (hn : l.length = 10) (hw : l.all isWord = true) (h : ∀ wd v, wd ∈ lawWords → wd.length ≤ 6 → Q (.str (strOf wd) v) s)
    (hs : subscripted slice false (.ref a) (.int k u) = operate [.ref a, .int k u] (getItem (.ref a) (.int k u)) := by with_unfolding_all rfl) :
    wpAny (model prog w) A (subscriptTail value slice (.ref a) (.int k u)) Q E s := by
  have hlt : k.toNat < l.length := by omega
  have hi := List.all_eq_true.mp hw _ (List.getElem_mem hlt)
  have hsi : seqIndex? k l.length = some k.toNat := by
    have a : ¬ k < 0 := by omega
    have b : k < (l.length : Int) := by omega
    simp [seqIndex?, a, h0, b]
  cases hv : l[k.toNat] with
  | str x v =>
    rw [hv] at hi
    obtain ⟨wd, hm, he⟩ := List.any_eq_true.mp hi
    rw [beq_iff_eq] at he
    refine topTup_K F X hl (by omega) (by omega) hsi (v := .str (strOf wd) v) ?_ (h wd v hm ?_) hs
    · rw [List.getElem?_eq_getElem hlt, hv, he]
    · have : ∀ wd ∈ lawWords, wd.length ≤ 6 := by decide
      exact this wd hm
  | _ => rw [hv] at hi; cases hi
/-- texts said over -/
theorem rep_texts : ∀ n ∈ [18, 19, 20, 21, 22], Txt.mul (Str.ofString "NOT ") (n : Nat) = strOf (List.replicate n [78, 79, 84, 32]).flatten ∧ Txt.mul (Str.ofString "(") (n : Nat) = strOf (List.replicate n 40) ∧ Txt.mul (Str.ofString ")") (n : Nat) = strOf (List.replicate n 41) := by decide +kernel
theorem mul_ks {i : Int} {x : Str} {f : Nat → List Int} (hx : x.length ≤ 16) (h0 : 18 ≤ i) (h1 : i ≤ 22) (hf : ∀ n ∈ [18, 19, 20, 21, 22], Txt.mul x (n : Nat) = strOf (f n)) (h : ∀ v k, Q (.str (strOf (f i.toNat)) v) { s with toks := k }) :
    wpAny (model prog w) A (binaryOp .Mult (.str x t) (.int i u)) Q E s := by
  refine SB.mul (mulOk_of 16 1048576 hx (by omega) (by omega) (by decide) (by decide)) fun v k => ?_
  have e := hf i.toNat (deep_in (by omega) (by omega))
  rw [show ((i.toNat : Nat) : Int) = i by omega] at e
  rw [e]; exact h v k
end
section
variable {prog : Program} {w : World} {A : Around} {E : Value → Shared → Prop} {s : Shared} {Q : Value → Shared → Prop} {t u : Tok} {i : Int} (h0 : 18 ≤ i) (h1 : i ≤ 22)
include h0 h1
theorem mul_N (h : ∀ v k, Q (.str (strOf (List.replicate i.toNat [78, 79, 84, 32]).flatten) v) { s with toks := k }) : wpAny (model prog w) A (binaryOp .Mult (.str (Str.ofString "NOT ") t) (.int i u)) Q E s := mul_ks (f := fun n => (List.replicate n [78, 79, 84, 32]).flatten) (by decide) h0 h1 (fun n hn => (rep_texts n hn).1) h
theorem mul_O (h : ∀ v k, Q (.str (strOf (List.replicate i.toNat 40)) v) { s with toks := k }) : wpAny (model prog w) A (binaryOp .Mult (.str (Str.ofString "(") t) (.int i u)) Q E s := mul_ks (f := fun n => List.replicate n 40) (by decide) h0 h1 (fun n hn => (rep_texts n hn).2.1) h
theorem mul_C (h : ∀ v k, Q (.str (strOf (List.replicate i.toNat 41)) v) { s with toks := k }) : wpAny (model prog w) A (binaryOp .Mult (.str (Str.ofString ")") t) (.int i u)) Q E s := mul_ks (f := fun n => List.replicate n 41) (by decide) h0 h1 (fun n hn => (rep_texts n hn).2.2) h
end
theorem eq_boolT {prog : Program} {w : World} {A : Around} {E : Value → Shared → Prop} {s : Shared} {Q : Value → Shared → Prop} {a b : Bool} (e : a = b) (h : Q (.bool true) s) : wpAny (model prog w) A (compareOp .Eq (.bool a) (.bool b)) Q E s := by
  refine eq_bool ?_
  subst e
  rw [beq_self_eq_true]; exact h
theorem repN_len {n : Nat} : (List.replicate n [(78 : Int), 79, 84, 32]).flatten.length = 4 * n := by
  induction n with
  | zero => rfl
  | succ n ih => rw [List.replicate_succ, List.flatten_cons, List.length_append, ih]; simp; omega
/-- a loop of the law's own text -/
structure LawS where
  p : Int
  q : Int
  tp : Tok
  tq : Tok
  tt : Tok
  ks : List Int
noncomputable abbrev lawLed (P S : Addr) (r : Int) (tr : Tok) (n : Nat) (oS : Obj) (c : LawS) : List (Addr × Obj) := [(P, penO S c.p c.q r c.tp c.tq tr n), (S, oS)]
noncomputable def lawPs (c : LawS) : List (Str × Value) := [(Str.ofString "text", Value.str (strOf c.ks) c.tt)]
structure LawP (pre : List Int) (c : LawS) : Prop where
  lo : 0 ≤ c.p
  hi : c.p ≤ 1 + 2 * pre.length
  gr : Grown c.ks pre.length
noncomputable def lawNames : List Str := [Str.ofString "word", Str.ofString "gap", Str.ofString "is_tight", Str.ofString "blank"]
noncomputable abbrev LawJ (P S : Addr) (r : Int) (tr : Tok) (n : Nat) (oS : Obj) (m₀ : Str → Option Value) (pre : List Int) : (Str → Option Value) → List (Addr × Obj) → Prop := KstS (lawLed P S r tr n oS) lawPs (fun _ => True) (Str.ofString "turn") lawNames m₀ LawP pre
theorem law_range {prog : Program} {w : World} {A : Around} {E : Value → Shared → Prop} {s : Shared} {env : Env} {h₀ : Heap} {body : List Stmt} {Q : Flow → Shared → Prop} {r' P S : Addr} {b₀ p q r : Int} {t₀ u₀ v₀ tp tq tr tt : Tok} {n : Nat} {oS : Obj} {m₀ : Str → Option Value} {news : List (Addr × Obj)}
    (hh : A.handled = none) (hr : IsRange s.heap r' 0 b₀ 1 t₀ u₀ v₀) (hb0 : 1 ≤ b₀) (hb1 : b₀ ≤ 16) (F : Fr h₀ env.locals s.heap m₀) (N : News h₀ env.locals s.heap news) (hP : (P, penO S p q r tp tq tr n) ∈ news) (hS : (S, oS) ∈ news) (hSP : S ≠ P) (hp0 : 0 ≤ p) (hp1 : p ≤ 1)
    (hm : m₀ (Str.ofString "text") = some (.str (Str.ofString "") tt))
    (turn : ∀ (pre : List Int) (k p q : Int) (tp tq tt t : Tok) (ks : List Int) (u : Str → Option Value) h tk own, pre.length < 16 → 0 ≤ p → p ≤ 40 → p ≤ 1 + 2 * (pre.length : Int) → Grown ks pre.length → ks.length ≤ 128 → (∀ z ∈ (S, oS) :: own, z.1 ≠ P) →
      Fr h₀ env.locals h (fun y => if y = Str.ofString "turn" then some (.int k t) else if y = Str.ofString "text" then some (.str (strOf ks) tt) else if lawNames.contains y then u y else m₀ y) → News h₀ env.locals h ((P, penO S p q r tp tq tr n) :: (S, oS) :: own) →
      wpAny (model prog w) A (execs body env) (InvPostN h₀ env.locals (LawJ P S r tr n oS m₀ (pre ++ [k])) own [P, S] { s with heap := h, toks := tk } Q) E { s with heap := h, toks := tk })
    (done : ∀ (p q : Int) (tp tq tt : Tok) (ks : List Int) (u : Str → Option Value) h tk, 0 ≤ p → p ≤ 40 → TextOk ks → ks.count 32 ≤ 40 →
      Fr h₀ env.locals h (fun y => if y = Str.ofString "turn" then u y else if y = Str.ofString "text" then some (.str (strOf ks) tt) else if lawNames.contains y then u y else m₀ y) → News h₀ env.locals h [(P, penO S p q r tp tq tr n), (S, oS)] → Q .next { s with heap := h, toks := tk }) :
    wpAny (model prog w) A (pyIter (.ref r')) (fun it s₂ => LoopAtV prog w A h₀ env (Str.ofString "turn") body Q E it s₂) E s := by
  have hn : Builtin.Range.rangeSize 0 b₀ 1 = ((b₀.toNat : Nat) : Int) := by rw [rangeSize_nat]; simp
  have N2 : News h₀ env.locals s.heap (lawLed P S r tr n oS ⟨p, q, tp, tq, tt, []⟩) := fun z hz => by
    rcases List.mem_cons.mp hz with rfl | hz
    · exact N _ hP
    · rw [List.mem_singleton.mp hz]; exact N _ hS
  refine kst_range (x := Str.ofString "turn") (lawLed P S r tr n oS) lawPs (fun _ => True) lawNames LawP ⟨p, q, tp, tq, tt, []⟩ hh hr (small_one (by omega) (by omega) (by omega) (by omega)) hn F N2 trivial ?_ ⟨hp0, by simpa using hp1, grown_nil⟩ ?_ ?_
  · intro z hz
    rw [List.mem_singleton.mp hz]
    show m₀ (Str.ofString "text") = some (Value.str (strOf []) tt)
    rw [hm]; rfl
  · rintro ⟨p, q, tp, tq, tt, ks⟩ pre k t u h tk own hk hlt hoff _ ⟨h1, h2, h3⟩ F₁ N₁
    have h4 := h3.len
    dsimp only at h1 h2 h3 h4
    have hi : pre.length < 16 := by omega
    refine turn pre k p q tp tq tt t ks u h tk own hi h1 (by omega) h2 h3 (by omega) (fun z hz => ?_) F₁ N₁
    rcases List.mem_cons.mp hz with rfl | hz
    · exact hSP
    · exact hoff z hz _ (List.Mem.head _)
  · rintro ⟨p, q, tp, tq, tt, ks⟩ u h tk _ ⟨h1, h2, h3⟩ F₁ N₁
    have h4 := h3.cnt
    rw [rangeKs_length] at h2 h3 h4
    dsimp only at h1 h2 h3 h4
    exact done p q tp tq tt ks u h tk h1 (by omega) h3.ok (by omega) F₁ N₁
theorem law_end {g h' : Heap} {L P S : Addr} {p q r k : Int} {tp tq tr tt : Tok} {n tk : Nat} {oS : Obj} {m₀ mf : Str → Option Value} {pre ks ks' : List Int} {wd bl : List Int} {own nx : List (Addr × Obj)} {s₁ : Shared}
    (F : Fr g L h' mf) (N : News g L h' nx) (hP : (P, penO S p q r tp tq tr n) ∈ nx) (hS : (S, oS) ∈ nx) (hown : ∀ z ∈ own, z ∈ nx) (hp0 : 0 ≤ p) (hp : p ≤ 1 + 2 * (pre.length : Int) + 2) (hG : Grown ks pre.length) (hi : pre.length < 16) (hw : wd ∈ lawWords) (hb : bl ∈ lawBlanks) (hk : ks' = ks ++ (bl ++ wd))
    (hm : mf (Str.ofString "text") = some (.str (strOf ks') tt)) (hm2 : ∀ z, z ≠ Str.ofString "turn" → z ≠ Str.ofString "text" → lawNames.contains z = false → mf z = m₀ z) :
    InvEndN g L (LawJ P S r tr n oS m₀ (pre ++ [k])) own [P, S] s₁ { s₁ with heap := h', toks := tk } := by
  subst hk
  refine ⟨h', tk, mf, nx, [(P, penO S p q r tp tq tr n), (S, oS)], rfl, F, N, fun z hz => ?_, hown, rfl, ⟨p, q, tp, tq, tt, ks ++ (bl ++ wd)⟩, rfl, trivial, fun z hz => ?_, fun z h1 h2 h3 => hm2 z h1 (h2 _ (List.Mem.head _)) h3, hp0, ?_, ?_⟩
  · rcases List.mem_cons.mp hz with rfl | hz
    · exact hP
    · rw [List.mem_singleton.mp hz]; exact hS
  · rw [List.mem_singleton.mp hz]; exact hm
  · rw [List.length_append, List.length_singleton]; dsimp only; omega
  · rw [List.length_append, List.length_singleton]
    exact grown_next hG hi hw hb
section
variable {prog : Program} {w : World} {A : Around} {E : Value → Shared → Prop} {s : Shared} {h₀ : Heap} {L R R2 T T2 : Addr} {news : List (Addr × Obj)} {j j2 : Int} {tj tj2 : Tok} {D D2 : Dat} {row : Option (Dat × Nat)} {Q : Value → Shared → Prop}
noncomputable abbrev pairO (T : Addr) (j : Int) (tj : Tok) : Obj := { cls := .type "tuple", data := .seq #[.ref T, .int j tj] }
theorem trees_same (N : News h₀ L s.heap news) (h1 : (R, pairO T j tj) ∈ news) (d1 : DatIn news (.ref T) D) (h2 : (R2, pairO T2 j2 tj2) ∈ news) (d2 : DatIn news (.ref T2) D2) (c1 : row = some (D, j.toNat)) (c2 : row = some (D2, j2.toNat)) (h0 : 0 ≤ j) (h02 : 0 ≤ j2) (ok : kqdOk 50 D = true) :
    ∃ as bs, Reads s.heap (.ref R) (kqdP (.tuple [D, .int j])) as ∧ Reads s.heap (.ref R2) (kqdP (.tuple [D, .int j])) bs ∧ SeqAt.shaped (kqdP (.tuple [D, .int j])) = true ∧ PyData.eqv (kqdP (.tuple [D, .int j])) (kqdP (.tuple [D, .int j])) = true := by
  have e : some (D, j.toNat) = some (D2, j2.toNat) := c1.symm.trans c2
  injection e with e
  injection e with e1 e2
  have e3 : j = j2 := by omega
  subst e1 e3
  have hk : kqdOk 51 (.tuple [D, .int j]) = true := by
    show ([D, Dat.int j].all (kqdOk 50)) = true
    simp [ok, kqdOk]
  obtain ⟨as, ra⟩ := kqd_in N 51 (.tuple (vs := [_, _]) h1 (.cons d1 (.cons (.int _ _) .nil))) hk
  obtain ⟨bs, rb⟩ := kqd_in N 51 (.tuple (vs := [_, _]) h2 (.cons d2 (.cons (.int _ _) .nil))) hk
  have la := kqd_lay 51 _ hk
  refine ⟨as, bs, ra, rb, ?_, (kqd_eqv 51 _ _ 51 hk hk).mpr rfl⟩
  unfold SeqAt.shaped
  rw [la.1, Bool.true_and]
  exact decide_eq_true (Nat.le_trans la.2 (by decide))
theorem ne_trees (N : News h₀ L s.heap news) (h1 : (R, pairO T j tj) ∈ news) (d1 : DatIn news (.ref T) D) (h2 : (R2, pairO T2 j2 tj2) ∈ news) (d2 : DatIn news (.ref T2) D2) (c1 : row = some (D, j.toNat)) (c2 : row = some (D2, j2.toNat)) (h0 : 0 ≤ j) (h02 : 0 ≤ j2) (ok : kqdOk 50 D = true) (hu : A.units + 64 < cLine)
    (h : Q (.bool false) s) : wpAny (model prog w) A (compareOp .NotEq (.ref R) (.ref R2)) Q E s := by
  obtain ⟨as, bs, ra, rb, sh, ev⟩ := trees_same N h1 d1 h2 d2 c1 c2 h0 h02 ok
  refine ne_dataH ra rb sh sh hu ?_
  rw [ev]; exact h
theorem eq_trees (N : News h₀ L s.heap news) (h1 : (R, pairO T j tj) ∈ news) (d1 : DatIn news (.ref T) D) (h2 : (R2, pairO T2 j2 tj2) ∈ news) (d2 : DatIn news (.ref T2) D2) (c1 : row = some (D, j.toNat)) (c2 : row = some (D2, j2.toNat)) (h0 : 0 ≤ j) (h02 : 0 ≤ j2) (ok : kqdOk 50 D = true) (hu : A.units + 64 < cLine)
    (h : Q (.bool true) s) : wpAny (model prog w) A (compareOp .Eq (.ref R) (.ref R2)) Q E s := by
  obtain ⟨as, bs, ra, rb, sh, ev⟩ := trees_same N h1 d1 h2 d2 c1 c2 h0 h02 ok
  refine eq_dataH ra rb sh sh hu ?_
  rw [ev]; exact h
end
theorem none_some {α : Type} {x : Option α} {y : α} (h1 : x = none) (h2 : x = some y) : False := by rw [h1] at h2; cases h2
/-- the whole of the law's own reader, by its plain function alone -/
theorem row_deep {ks : List Int} {D : Dat} {j : Nat} (hc : ks.count 32 ≤ 40) (h : rowP (keyP ks 21) ks 0 = some (D, j)) : kqdOk 50 D = true := row_ok h hc
end Mine
end
section
open PySem PySem.W PyProof.Rows
open Lean Elab Tactic Meta
set_option Elab.async false
set_option maxRecDepth 100000
set_option maxHeartbeats 8000000
namespace Mine
/-- what the law holds of its own: the pen and its ints -/
structure LedIs (l : List (Addr × Obj)) : Prop where
  x : True
theorem at0 {ks : List Int} {y : Option (Dat × Nat)} (h : rowP (keyP ks 21) ks (Int.toNat 0) = y) : rowP (keyP ks 21) ks 0 = y := h
structure Mark2 : Prop where
  x : True
theorem ledOf {h₀ h : Heap} {L : Addr} {l : List (Addr × Obj)} (_ : News h₀ L h l) : LedIs l := ⟨trivial⟩
section
variable {prog : Program} {w : World} {mean : ExcName → Option Value} {mg mb : Str → Option Value}
    {dp un : Nat} {gd : Option (List Code)} {cn : Str} {cs : Scope} {a : Addr} {ccd : Value} {cl : List (Str × Addr)} {outer : List Env} {A₀ : Around} {base h₀ : Heap} {L : Addr} {m : Str → Option Value} {news : List (Addr × Obj)} {s : Shared}
    {Q E : Value → Shared → Prop}
    (B : Below A₀ base outer h₀) (F : Fr h₀ L s.heap m) (X : (Mine.laid.heap_1 w.params).In h₀) (N : News h₀ L s.heap news) (T : Top Mine.vw LL mean mg mb h₀) (hk : cs.kind = .function)
include B F X N T hk
theorem draw_led {P S : Addr} {p q r mv : Int} {tp tq tr tm : Tok} {n k : Nat} {vs : List Value} {ns : List Int} (hL : LedIs [(P, penO S p q r tp tq tr n), (S, listOf vs.toArray k)]) (hsub : ∀ z ∈ [(P, penO S p q r tp tq tr n), (S, listOf vs.toArray k)], z ∈ news) (hSP : S ≠ P) (hi : IntsAre vs ns) (hl : ns.length ≤ 63)
    (hp : 0 ≤ p) (hp2 : p ≤ 1000) (hr : 0 ≤ r) (hr2 : r < 1009) (hm : 1 ≤ mv) (hm2 : mv ≤ 16)
    (hdp : dp + 4 < recursionLimit) (hun : un + 64 < cLine) 
    (ret : ∀ v p' q' tv tp' tq' h' tk', Fr h₀ L h' m → News h₀ L h' [(P, penO S p' q' r tp' tq' tr n), (S, listOf vs.toArray k)] → 0 ≤ v → v < mv → p ≤ p' → p' ≤ p + 1 → Q (.int v tv) { s with heap := h', toks := tk' }) :
    wpAny (model prog w) (ktrTop dp un gd cn cs L a ccd cl outer) (call (.ref 677) [.ref P, .int mv tm]) Q E s :=
  draw_spec B F X (fun z hz => N z (hsub z hz)) T hk rfl (fun z hz => by rw [List.mem_singleton.mp hz]; exact hSP) (List.Mem.head _) hi hl hp hp2 hr hr2 hm hm2 hdp hun ret
end
/-- a statement walked once, its ends joined -/
noncomputable def CutEnd (h₀ : Heap) (L : Addr) (m : Str → Option Value) (led : List (Addr × Obj)) (s : Shared) (fl : Flow) (s₂ : Shared) : Prop := fl = .next ∧ ∃ h' tk, s₂ = { s with heap := h', toks := tk } ∧ Fr h₀ L h' m ∧ News h₀ L h' led
theorem cut_if {M : Model} {A : Around} {env : Env} {E : Value → Shared → Prop} {s : Shared} {h₀ : Heap} {L : Addr} {m : Str → Option Value} {led : List (Addr × Obj)} {st : Stmt} {Q : Flow → Shared → Prop} (hL : LedIs led) (F : Fr h₀ L s.heap m)
    (first : wpAny M A (exec st env) (CutEnd h₀ L m led s) E s) (next : ∀ h' tk, Fr h₀ L h' m → News h₀ L h' led → Q .next { s with heap := h', toks := tk }) : wpAny M A (exec st env) Q E s :=
  wpAny_mono first (fun fl s₂ ⟨h1, h', tk, h2, h3, h4⟩ => by subst h1 h2; exact next h' tk h3 h4) fun _ _ x => x
structure DeepT (ks : List Int) (n : Int) : Prop where
  ok : TextOk ks
  cnt : ks.count 32 ≤ 40
  row : rowP (keyP ks 21) ks 0 = none ↔ 20 < n
theorem deepT_N {i : Int} (h1 : 18 ≤ i) (h2 : i ≤ 22) : DeepT ((List.replicate i.toNat [78, 79, 84, 32]).flatten ++ [65, 76, 76]) i :=
  let h := deepN_ok (n := i.toNat) (by omega) (by omega)
  ⟨h.1, h.2.1, h.2.2.trans ⟨fun q => by omega, fun q => by omega⟩⟩
theorem deepT_B {i : Int} (h1 : 18 ≤ i) (h2 : i ≤ 22) : DeepT (List.replicate i.toNat 40 ++ [55, 32, 55] ++ List.replicate i.toNat 41) i :=
  let h := deepB_ok (n := i.toNat) (by omega) (by omega)
  ⟨h.1, h.2.1, h.2.2.trans ⟨fun q => by omega, fun q => by omega⟩⟩
noncomputable def DeepEnd (h₀ : Heap) (L : Addr) (m : Str → Option Value) (led : List (Addr × Obj)) (s : Shared) (n : Int) (fl : Flow) (s₂ : Shared) : Prop := fl = .next ∧ ∃ ks tt h' tk, s₂ = { s with heap := h', toks := tk } ∧ Fr h₀ L h' (fun y => if y = Str.ofString "deep" then some (.str (strOf ks) tt) else m y) ∧ News h₀ L h' led ∧ DeepT ks n
theorem cut_deep {M : Model} {A : Around} {env : Env} {E : Value → Shared → Prop} {s : Shared} {h₀ : Heap} {L : Addr} {m : Str → Option Value} {led : List (Addr × Obj)} {n : Int} {tn : Tok} {st : Stmt} {Q : Flow → Shared → Prop} (hm : m (Str.ofString "many") = some (.int n tn)) (F : Fr h₀ L s.heap m) (N : News h₀ L s.heap led)
    (first : wpAny M A (exec st env) (DeepEnd h₀ L m led s n) E s) (next : ∀ ks tt h' tk, DeepT ks n → Fr h₀ L h' (fun y => if y = Str.ofString "deep" then some (.str (strOf ks) tt) else m y) → News h₀ L h' led → Q .next { s with heap := h', toks := tk }) : wpAny M A (exec st env) Q E s :=
  wpAny_mono first (fun fl s₂ ⟨h1, ks, tt, h', tk, h2, h3, h4, h5⟩ => by subst h1 h2; exact next ks tt h' tk h5 h3 h4) fun _ _ x => x
theorem lit0 : Str.ofString "" = strOf [] := by decide
theorem lit1 : Str.ofString " " = strOf [32] := by decide
theorem lit2 : Str.ofString "  " = strOf [32, 32] := by decide
theorem litA : Str.ofString "ALL" = strOf [65, 76, 76] := by decide
theorem lit7 : Str.ofString "7 7" = strOf [55, 32, 55] := by decide
theorem names_off {z : Str} (h : lawNames.contains z = false) : z ≠ Str.ofString "word" ∧ z ≠ Str.ofString "gap" ∧ z ≠ Str.ofString "is_tight" ∧ z ≠ Str.ofString "blank" := by
  simp only [lawNames, List.contains_cons, List.contains_nil, Bool.or_false, Bool.or_eq_false_iff, beq_eq_false_iff_ne] at h
  exact h
end Mine
open Mine
local macro_rules | `(tactic| k_qdec) => `(tactic| decide +kernel)
theorem Mine.walkWords26 : True := by
  w_top off
  k_with_none
  k_with "mem up" => (repeat (first | with_reducible assumption | exact List.mem_cons_self | refine List.mem_cons_of_mem _ ?_))
  k_with "dat sub" => (repeat (first | with_reducible assumption | refine DatIn.mono (fun p hp => List.mem_cons_of_mem _ hp) ?_ | refine DatIn.mono (by with_reducible assumption : ∀ p ∈ _, p ∈ _) ?_))
  k_with "sub up" => (repeat (first | with_reducible assumption | refine List.mem_cons_of_mem _ ?_ | (refine (by with_reducible assumption : ∀ p ∈ _, p ∈ _) _ ?_)))
  k_with "eval Constant int" => (k_here; (with_reducible refine constK ?_); intro z9v9 z9k9; (try dsimp only))
  k_with "binaryOp Add int int" => (k_here; (with_reducible refine addK ?_); intro z9v9 z9k9; (try dsimp only))
  k_with "binaryOp Sub int int" => (k_here; (with_reducible refine subK ?_); intro z9v9 z9k9; (try dsimp only))
  k_with "binaryOp Mult int int" => (k_here; (with_reducible refine mulK (by mul_fits) ?_); intro z9v9 z9k9; (try dsimp only))
  k_with "binaryOp Mod int int" => (k_here; (with_reducible refine modK (by omega) ?_); intro z9v9 z9k9; (try dsimp only))
  k_with "binaryOp FloorDiv int int" => (k_here; (with_reducible refine fdivK (by omega) (by omega) ?_); intro z9v9 z9k9; (try dsimp only))
  k_with "call ref" => ((with_reducible show wpAny _ _ (PySem.call (Value.ref 677) _) _ _ _); k_here; k_dflt (refine' draw_led ?q9kB ?q9kF ?q9kX ?q9kN ?q9kT ?q9kk ?q9kL ?q9ksub ?q9hSP ?q9hi ?q9hl ?q9hp ?q9hp2 ?q9hr ?q9hr2 ?q9hm ?q9hm2 ?q9kr ?q9ku ?_; (case q9kB => k_asm); (case q9kF => k_asm); (case q9kX => k_asm); (case q9kN => k_asm); (case q9kT => k_asm); (case q9kk => first | exact rfl | assumption); (case q9kL => assumption); (case q9ksub => exact fun z hz => (by walk_at "sub up")); (case q9hSP => first | with_reducible assumption | k_ne); (case q9hi => assumption); (case q9hl => first | with_reducible assumption | exact List.length_take_le _ _); (case q9hp => first | with_reducible assumption | omega); (case q9hp2 => first | with_reducible assumption | omega); (case q9hr => first | with_reducible assumption | exact Int.fmod_nonneg_of_pos _ (by decide)); (case q9hr2 => first | with_reducible assumption | exact Int.fmod_lt_of_pos _ (by decide)); (case q9hm => decide); (case q9hm2 => decide); (case q9kr => ktr_room); (case q9ku => ktr_units); k_whole); (intro z9v z9p' z9q' z9tv z9tp' z9tq' z9h' z9tk' z9F' z9N' z9hv0' z9hv1' z9hp1' z9hp2'))
  k_with "call ref" => ((with_reducible show wpAny _ _ (PySem.call (Value.ref 677) _) _ _ _); k_here; k_dflt (refine' draw_spec ?q9kB ?q9kF ?q9kX ?q9kN ?q9kT ?q9kk ?q9hne ?q9hPr ?q9hS ?q9hi ?q9hl ?q9hp ?q9hp2 ?q9hr ?q9hr2 ?q9hm ?q9hm2 ?q9kr ?q9ku ?_; (case q9kB => k_asm); (case q9kF => k_asm); (case q9kX => k_asm); (case q9kN => k_asm); (case q9kT => k_asm); (case q9kk => first | exact rfl | assumption); (case q9hne => exact rfl); (case q9hPr => first | with_reducible assumption | k_all); (case q9hS => walk_at "mem up"); (case q9hi => assumption); (case q9hl => first | with_reducible assumption | exact List.length_take_le _ _); (case q9hp => first | with_reducible assumption | omega); (case q9hp2 => first | with_reducible assumption | omega); (case q9hr => first | with_reducible assumption | exact Int.fmod_nonneg_of_pos _ (by decide)); (case q9hr2 => first | with_reducible assumption | exact Int.fmod_lt_of_pos _ (by decide)); (case q9hm => decide); (case q9hm2 => decide); (case q9kr => ktr_room); (case q9ku => ktr_units); k_whole); (intro z9v z9p' z9q' z9tv z9tp' z9tq' z9h' z9tk' z9F' z9N' z9hv0' z9hv1' z9hp1' z9hp2'))
  k_with "call ref" => ((with_reducible show wpAny _ _ (PySem.call (Value.ref 701) _) _ _ _); k_here; k_dflt (refine' heard_spec ?q9kB ?q9kF ?q9kX ?q9kN ?q9kT ?q9kk ?q9kXB ?q9kTB ?q9kH ?q9kr ?q9ku ?_ ?_; (case q9kB => k_asm); (case q9kF => k_asm); (case q9kX => k_asm); (case q9kN => k_asm); (case q9kT => k_asm); (case q9kk => first | exact rfl | assumption); (case q9kXB => assumption); (case q9kTB => assumption); (case q9kH => with_reducible (first | assumption | exact DeepT.ok (by assumption))); (case q9kr => ktr_room); (case q9ku => ktr_units); k_whole); (intro z9hc z9nx z9h' z9tk' z9F' z9N' z9hs'; (have z9hc0 := at0 z9hc); (try (exfalso; exact none_some z9hc0 (by with_reducible assumption)))); rotate_left; (intro z9D z9j z9hc z9hj0 z9R z9T z9tj z9nx z9h' z9tk' z9F' z9N' z9hs' z9hR' z9hD'; (try (have z9hRx' := z9hs' (_, pairO _ _ _) (by with_reducible assumption))); (try (have z9hDx' := DatIn.mono z9hs' (by with_reducible assumption : DatIn _ (Value.ref _) _))); (have z9hc0 := at0 z9hc); (try (exfalso; exact none_some (by with_reducible assumption) z9hc0))); rotate_left)
  k_with "call ref" => ((with_reducible show wpAny _ _ (PySem.call (Value.ref 696) _) _ _ _); k_here; k_dflt (refine' lreader_use ?q9kH ?q9kB ?q9kF ?q9kX ?q9kN ?q9kT ?q9kk ?q9k0 ?q9kl ?q9kr ?q9ku ?_ ?_; (case q9kH => with_reducible (first | exact lrows_all (by assumption) | exact lrows_all (DeepT.ok (by assumption)))); (case q9kB => k_asm); (case q9kF => k_asm); (case q9kX => k_asm); (case q9kN => k_asm); (case q9kT => k_asm); (case q9kk => first | exact rfl | assumption); (case q9k0 => omega); (case q9kl => omega); (case q9kr => ktr_room); (case q9ku => ktr_units); k_whole); (intro z9hc z9nx z9h' z9tk' z9F' z9N' z9hs'; (have z9hc0 := at0 z9hc); (try (exfalso; exact none_some z9hc0 (by with_reducible assumption)))); rotate_left; (intro z9D z9j z9hc z9hj1 z9hj2 z9R z9T z9tj z9nx z9h' z9tk' z9F' z9N' z9hs' z9hR' z9hD'; (try (have z9hRx' := z9hs' (_, pairO _ _ _) (by with_reducible assumption))); (try (have z9hDx' := DatIn.mono z9hs' (by with_reducible assumption : DatIn _ (Value.ref _) _))); (have z9hc0 := at0 z9hc); (try (exfalso; exact none_some (by with_reducible assumption) z9hc0))); rotate_left)
  k_with "binaryOp Add str str" => (k_here; k_dflt (refine' add_ks ?q9x ?q9y ?q9l ?_; (case q9x => with_reducible (first | exact rfl | exact lit0)); (case q9y => with_reducible (first | exact lit0 | exact lit1 | exact lit2 | exact litA | exact lit7 | exact rfl)); (case q9l => (simp only [List.length_append, List.length_cons, List.length_nil, List.length_replicate, repN_len]; omega)); k_whole); intro z9v9 z9k9; (try dsimp only))
  k_with "binaryOp Mult str int" => (k_here; (with_reducible show wpAny _ _ (binaryOp Operator.Mult (Value.str (PySem.Str.ofString "NOT ") _) (Value.int _ _)) _ _ _); k_dflt (refine' mul_N ?q9a ?q9b ?_; (case q9a => omega); (case q9b => omega); k_whole); intro z9v9 z9k9; (try dsimp only))
  k_with "binaryOp Mult str int" => (k_here; (with_reducible show wpAny _ _ (binaryOp Operator.Mult (Value.str (PySem.Str.ofString "(") _) (Value.int _ _)) _ _ _); k_dflt (refine' mul_O ?q9a ?q9b ?_; (case q9a => omega); (case q9b => omega); k_whole); intro z9v9 z9k9; (try dsimp only))
  k_with "binaryOp Mult str int" => (k_here; (with_reducible show wpAny _ _ (binaryOp Operator.Mult (Value.str (PySem.Str.ofString ")") _) (Value.int _ _)) _ _ _); k_dflt (refine' mul_C ?q9a ?q9b ?_; (case q9a => omega); (case q9b => omega); k_whole); intro z9v9 z9k9; (try dsimp only))
  k_with "compareOp Eq bool bool" => (k_here; k_dflt (refine' eq_boolT ?q9h ?_; (case q9h => first | exact (decide_eq_true ((DeepT.row (by with_reducible assumption)).mp (by with_reducible assumption))).symm | exact (decide_eq_false (fun q => none_some ((DeepT.row (by with_reducible assumption)).mpr q) (by with_reducible assumption))).symm); k_whole))
  k_with "subscriptTail" => (k_here; (with_reducible show wpAny _ _ (subscriptTail _ _ (Value.ref _) (Value.int _ _)) _ _ _); k_dflt (refine' word_item ?q9F ?q9X ?q9l ?q9a ?q9b ?q9n ?q9w ?_; (case q9F => k_asm); (case q9X => k_asm); (case q9l => k_is); (case q9a => omega); (case q9b => omega); (case q9n => rfl); (case q9w => decide +kernel)); intro z9wd' z9v' z9hw' z9hl')
  k_with "compareOp NotEq ref ref" => (k_here; k_dflt (refine' ne_trees ?q9N ?q9a ?q9b ?q9c ?q9d ?q9e ?q9f ?q9g ?q9h ?q9k ?q9u ?_; (case q9N => k_asm); (case q9a => with_reducible assumption); (case q9b => with_reducible assumption); (case q9c => with_reducible assumption); (case q9d => with_reducible assumption); (case q9e => with_reducible assumption); (case q9f => with_reducible assumption); (case q9g => omega); (case q9h => omega); (case q9k => exact row_deep (by with_reducible assumption) (by with_reducible assumption)); (case q9u => ktr_units); k_whole))
  k_with "compareOp Eq ref ref" => (k_here; k_dflt (refine' eq_trees ?q9N ?q9a ?q9b ?q9c ?q9d ?q9e ?q9f ?q9g ?q9h ?q9k ?q9u ?_; (case q9N => k_asm); (case q9a => with_reducible assumption); (case q9b => with_reducible assumption); (case q9c => with_reducible assumption); (case q9d => with_reducible assumption); (case q9e => with_reducible assumption); (case q9f => with_reducible assumption); (case q9g => omega); (case q9h => omega); (case q9k => exact row_deep (DeepT.cnt (by with_reducible assumption)) (by with_reducible assumption)); (case q9u => ktr_units); k_whole))
  k_with "InvEndN" => (k_dflt (refine' law_end ?q9F ?q9N ?q9hP ?q9hS ?q9hown ?q9p0 ?q9p ?q9hG ?q9hi ?q9hw ?q9hb ?q9hk ?q9hm ?q9hm2; (case q9F => k_asm); (case q9N => k_asm); (case q9hP => walk_at "mem up"); (case q9hS => walk_at "mem up"); (case q9hown => exact fun z9z hz => (by walk_at "mem up")); (case q9hG => assumption); (case q9hi => assumption); (case q9hm => rfl); (case q9hk => exact List.append_assoc _ _ _); (case q9hw => assumption); (case q9hb => decide); (case q9p0 => omega); (case q9p => omega); (case q9hm2 => (intro z9z z9q1 z9q2 z9q3; obtain ⟨z9q4, z9q5, z9q6, z9q7⟩ := names_off z9q3; simp only [if_neg z9q1, if_neg z9q2, if_neg z9q4, if_neg z9q5, if_neg z9q6, if_neg z9q7, z9q3, Bool.false_eq_true, if_false]))))
  k_with "CutEnd" => (k_dflt (exact ⟨rfl, _, _, rfl, (by k_asm), fun z hz => (by k_asm : News _ _ _ _) z (by walk_at "sub up")⟩))
  k_with "DeepEnd" => (k_dflt (first | exact ⟨rfl, _, _, _, _, rfl, (by k_asm), (by k_asm), deepT_N (by omega) (by omega)⟩ | exact ⟨rfl, _, _, _, _, rfl, (by k_asm), (by k_asm), deepT_B (by omega) (by omega)⟩))
  trivial
theorem PySem.Challenge.cw_nz0323_01_holds : PySem.Challenge.rw_nz0323_01.Holds := by
  refine Mine.hd ?_
  k_go0
  (all_goals try k_fold)
  k_with "pyIter ref" => (k_here; (rename Fr _ _ _ _ => hFw); (rename News _ _ _ _ => hNw); k_dflt (refine' law_range rfl ?hr ?b0 ?b1 hFw hNw ?hP ?hS ?hSP ?p0 ?p1 (by rfl) ?_ ?_; (case hr => assumption); (case b0 => omega); (case b1 => omega); (case hP => exact List.Mem.head _); (case hS => walk_at "mem up"); (case hSP => k_ne); (case p0 => omega); (case p1 => omega); k_whole; clear hFw hNw); (intro pre kk p1 q1 tp1 tq1 tt1 t1 ks1 u1 hh1 tk1 own1 hi1 hp10 hp11 hp12 hG1 hl1 hoff1 F1 N1; (have hsl1 := strOf_length (ks := ks1))); rotate_left; (intro p1 q1 tp1 tq1 tt1 ks1 u1 hh1 tk1 hp10 hp11 hT1 hc1 F1 N1; (have hLed := ledOf N1); (have hmk1 : Mark1 := ⟨trivial⟩)); rotate_left)
  k_with "exec If Compare cons nil" => (k_here; (rename Mark1 => hmk); k_dflt (refine' cut_if ?L ?F ?_ ?_; (case L => assumption); (case F => k_asm); k_whole; clear hmk); rotate_left; (clear hmk; intro hh2 tk2 F2 N2; (have hmk2 : Mark2 := ⟨trivial⟩)); rotate_left)
  k_with "exec Assign cons IfExp" => (k_here; (rename Mark2 => hmk); k_dflt (refine' cut_deep ?m ?F ?N ?_ ?_; (case F => k_asm); (case m => rfl); (case N => k_asm); k_whole; clear hmk); rotate_left; (clear hmk; intro ks3 tt3 hh3 tk3 hD3 F3 N3); rotate_left)
  k_steps
end
