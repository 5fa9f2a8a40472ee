import PyProof.Rows.All
import Wide.All
import OpenK.AllK
import Wide.FinOn
import Lean
import PySem.Challenge.RW_np0139_01
open PySem PySem.W PySem.Calls PyProof.Rows
set_option Elab.async false
set_option maxRecDepth 100000
set_option linter.all false
namespace Mine
set_option maxHeartbeats 0
theorem words_ka : True := by
 k_with "kf" => (refine' ⟨_, ?h⟩; case h => (dsimp only [PySem.Challenge.rw_np0139_01, PySem.Challenge.pw_np0139_01, stmI, List.drop, List.take, bodyI, argsI, scopeI]; exact rfl))
 trivial
noncomputable def stmI (l : List Stmt) (i : Nat) : List Stmt := (l.drop i).take 1
noncomputable def bodyI : List Stmt → List Stmt
 |[.FunctionDef _ _ b _ _ _ _ _ _ _] => b
 |[.ClassDef _ _ _ b _ _ _ _ _ _ _] => b
 |_ => []
noncomputable def argsI : List Stmt → Arguments
 |[.FunctionDef _ a _ _ _ _ _ _ _ _] => a
 |_ => ⟨[], [], none, [], [], none, []⟩
noncomputable def scopeI : List Stmt → Scope
 |[.FunctionDef _ _ _ _ _ _ s _ _ _] => s
 |_ => { kind := .module, names := [], isGenerator := false, isCoroutine := false }
noncomputable def viewB : { q : List Stmt // q = ((((((PySem.Challenge.rw_np0139_01.prog.main.body.eraseIdx 34).eraseIdx 25).eraseIdx 23).eraseIdx 13).eraseIdx 8).eraseIdx 1) } := by
 refine' ⟨_, ?h⟩
 case h =>
  dsimp only [PySem.Challenge.rw_np0139_01, PySem.Challenge.pw_np0139_01, List.eraseIdx]
  exact rfl
noncomputable def view9 : Program := { PySem.Challenge.rw_np0139_01.row.toRowW.prog with main := { PySem.Challenge.rw_np0139_01.row.toRowW.prog.main with body := viewB.1 } }
noncomputable def vS (s : String) (t : Nat) : Value := .str (Str.ofString s) t
noncomputable def s1 (i : Nat) : List Stmt := stmI PySem.Challenge.rw_np0139_01.prog.main.body i
noncomputable def s2 (i j : Nat) : List Stmt := stmI (bodyI (s1 i)) j
noncomputable def fO (n q : String) (p : List Stmt) (d m : Value) (c : Nat) : Obj := { cls := .type "function", data := .func { name := Str.ofString n, qualname := Str.ofString q, params := argsI p, body := .stmts (bodyI p), scope := scopeI p, globals := 3, closure := [], defaults := d, kwdefaults := .none, pyModule := m, code := .ref c } }
theorem words_KA : True := by
 k_with "kao" => (refine' ⟨_, ?h⟩; (case h => (dsimp only [fO, s1, s2, vS, PySem.Challenge.rw_np0139_01, PySem.Challenge.pw_np0139_01, stmI, List.drop, List.take, bodyI, argsI, scopeI]; exact rfl)))
 trivial
noncomputable def o81S : { o : Params → Obj // o = fun P => fO "__init__" "Raised.__init__" (s2 5 0) (.ref 74) (vS "tclcore.faults" 194) 80 } := by k_extra "kao"
noncomputable abbrev o81 (P : Params) : Obj := o81S.1 P
noncomputable def o174S : { o : Params → Obj // o = fun P => fO "told" "told" (s1 14) .none (vS "tclcore.events" 410) 173 } := by k_extra "kao"
noncomputable abbrev o174 (P : Params) : Obj := o174S.1 P
noncomputable def o181S : { o : Params → Obj // o = fun P => fO "run_event" "run_event" (s1 15) .none (vS "tclcore.events" 410) 180 } := by k_extra "kao"
noncomputable abbrev o181 (P : Params) : Obj := o181S.1 P
noncomputable def o188S : { o : Params → Obj // o = fun P => fO "run_idle" "run_idle" (s1 16) .none (vS "tclcore.events" 410) 187 } := by k_extra "kao"
noncomputable abbrev o188 (P : Params) : Obj := o188S.1 P
noncomputable def o195S : { o : Params → Obj // o = fun P => fO "run_timer" "run_timer" (s1 17) .none (vS "tclcore.events" 410) 194 } := by k_extra "kao"
noncomputable abbrev o195 (P : Params) : Obj := o195S.1 P
noncomputable def o202S : { o : Params → Obj // o = fun P => fO "name_of" "name_of" (s1 18) .none (vS "tclcore.events" 410) 201 } := by k_extra "kao"
noncomputable abbrev o202 (P : Params) : Obj := o202S.1 P
noncomputable def o207S : { o : Params → Obj // o = fun P => fO "all_events" "all_events" (s1 19) .none (vS "tclcore.events" 410) 206 } := by k_extra "kao"
noncomputable abbrev o207 (P : Params) : Obj := o207S.1 P
noncomputable def o214S : { o : Params → Obj // o = fun P => fO "event_named" "event_named" (s1 20) .none (vS "tclcore.events" 410) 213 } := by k_extra "kao"
noncomputable abbrev o214 (P : Params) : Obj := o214S.1 P
noncomputable def o221S : { o : Params → Obj // o = fun P => fO "event_of" "event_of" (s1 21) .none (vS "tclcore.events" 410) 220 } := by k_extra "kao"
noncomputable abbrev o221 (P : Params) : Obj := o221S.1 P
noncomputable def o236S : { o : Params → Obj // o = fun P => fO "__init__" "Events.__init__" (s2 22 0) (.ref 229) (vS "tclcore.events" 410) 235 } := by k_extra "kao"
noncomputable abbrev o236 (P : Params) : Obj := o236S.1 P
noncomputable def o243S : { o : Params → Obj // o = fun P => fO "after" "Events.after" (s2 22 1) .none (vS "tclcore.events" 410) 242 } := by k_extra "kao"
noncomputable abbrev o243 (P : Params) : Obj := o243S.1 P
noncomputable def o250S : { o : Params → Obj // o = fun P => fO "when_idle" "Events.when_idle" (s2 22 2) .none (vS "tclcore.events" 410) 249 } := by k_extra "kao"
noncomputable abbrev o250 (P : Params) : Obj := o250S.1 P
noncomputable def o255S : { o : Params → Obj // o = fun P => fO "cancel" "Events.cancel" (s2 22 3) .none (vS "tclcore.events" 410) 254 } := by k_extra "kao"
noncomputable abbrev o255 (P : Params) : Obj := o255S.1 P
noncomputable def o262S : { o : Params → Obj // o = fun P => fO "step" "Events.step" (s2 22 4) .none (vS "tclcore.events" 410) 261 } := by k_extra "kao"
noncomputable abbrev o262 (P : Params) : Obj := o262S.1 P
noncomputable def o305S : { o : Params → Obj // o = fun P => fO "__init__" "Host.__init__" (s2 26 0) (.ref 298) (vS "tclcore.host" 582) 304 } := by k_extra "kao"
noncomputable abbrev o305 (P : Params) : Obj := o305S.1 P
noncomputable def o312S : { o : Params → Obj // o = fun P => fO "tool" "Host.tool" (s2 26 1) .none (vS "tclcore.host" 582) 311 } := by k_extra "kao"
noncomputable abbrev o312 (P : Params) : Obj := o312S.1 P
noncomputable def o319S : { o : Params → Obj // o = fun P => fO "spend" "Host.spend" (s2 26 2) .none (vS "tclcore.host" 582) 318 } := by k_extra "kao"
noncomputable abbrev o319 (P : Params) : Obj := o319S.1 P
noncomputable def o333S : { o : Params → Obj // o = fun P => fO "run" "Host.run" (s2 26 4) .none (vS "tclcore.host" 582) 332 } := by k_extra "kao"
noncomputable abbrev o333 (P : Params) : Obj := o333S.1 P
noncomputable def o340S : { o : Params → Obj // o = fun P => fO "run_global" "Host.run_global" (s2 26 5) .none (vS "tclcore.host" 582) 339 } := by k_extra "kao"
noncomputable abbrev o340 (P : Params) : Obj := o340S.1 P
noncomputable def o347S : { o : Params → Obj // o = fun P => fO "call" "Host.call" (s2 26 6) .none (vS "tclcore.host" 582) 346 } := by k_extra "kao"
noncomputable abbrev o347 (P : Params) : Obj := o347S.1 P
noncomputable def o417S : { o : Params → Obj // o = fun P => fO "act" "act" (s1 32) .none (vS "tclcore.host" 582) 416 } := by k_extra "kao"
noncomputable abbrev o417 (P : Params) : Obj := o417S.1 P
noncomputable def o432S : { o : Params → Obj // o = fun P => fO "__init__" "SmallHost.__init__" (s2 33 0) (.ref 425) (vS "tclcore.host" 582) 431 } := by k_extra "kao"
noncomputable abbrev o432 (P : Params) : Obj := o432S.1 P
noncomputable def o503S : { o : Params → Obj // o = fun P => fO "put" "SmallHost.put" (s2 33 10) (.ref 496) (vS "tclcore.host" 582) 502 } := by k_extra "kao"
noncomputable abbrev o503 (P : Params) : Obj := o503S.1 P
noncomputable def o510S : { o : Params → Obj // o = fun P => fO "remove" "SmallHost.remove" (s2 33 11) .none (vS "tclcore.host" 582) 509 } := by k_extra "kao"
noncomputable abbrev o510 (P : Params) : Obj := o510S.1 P
noncomputable def o531S : { o : Params → Obj // o = fun P => fO "begin" "SmallHost.begin" (s2 33 14) .none (vS "tclcore.host" 582) 530 } := by k_extra "kao"
noncomputable abbrev o531 (P : Params) : Obj := o531S.1 P
noncomputable def o543S : { o : Params → Obj // o = fun P => fO "_law_names" "_law_names" (s1 35) .none (vS "law_np0139_01" 903) 542 } := by k_extra "kao"
noncomputable abbrev o543 (P : Params) : Obj := o543S.1 P
noncomputable def o550S : { o : Params → Obj // o = fun P => fO "_law_wait" "_law_wait" (s1 36) .none (vS "law_np0139_01" 903) 549 } := by k_extra "kao"
noncomputable abbrev o550 (P : Params) : Obj := o550S.1 P
noncomputable def o557S : { o : Params → Obj // o = fun P => fO "_law_what" "_law_what" (s1 37) .none (vS "law_np0139_01" 903) 556 } := by k_extra "kao"
noncomputable abbrev o557 (P : Params) : Obj := o557S.1 P
noncomputable def o564S : { o : Params → Obj // o = fun P => fO "_law_acts" "_law_acts" (s1 38) .none (vS "law_np0139_01" 903) 563 } := by k_extra "kao"
noncomputable abbrev o564 (P : Params) : Obj := o564S.1 P
noncomputable def o571S : { o : Params → Obj // o = fun P => fO "_law_deed" "_law_deed" (s1 39) .none (vS "law_np0139_01" 903) 570 } := by k_extra "kao"
noncomputable abbrev o571 (P : Params) : Obj := o571S.1 P
noncomputable def o578S : { o : Params → Obj // o = fun P => fO "_law_done" "_law_done" (s1 40) .none (vS "law_np0139_01" 903) 577 } := by k_extra "kao"
noncomputable abbrev o578 (P : Params) : Obj := o578S.1 P
noncomputable def o585S : { o : Params → Obj // o = fun P => fO "_law_command" "_law_command" (s1 41) .none (vS "law_np0139_01" 903) 584 } := by k_extra "kao"
noncomputable abbrev o585 (P : Params) : Obj := o585S.1 P
noncomputable def o592S : { o : Params → Obj // o = fun P => fO "_law_run" "_law_run" (s1 42) .none (vS "law_np0139_01" 903) 591 } := by k_extra "kao"
noncomputable abbrev o592 (P : Params) : Obj := o592S.1 P
noncomputable def o599S : { o : Params → Obj // o = fun P => fO "_law_told" "_law_told" (s1 43) .none (vS "law_np0139_01" 903) 598 } := by k_extra "kao"
noncomputable abbrev o599 (P : Params) : Obj := o599S.1 P
noncomputable def o604S : { o : Params → Obj // o = fun P => fO "_law_own" "_law_own" (s1 44) .none (vS "law_np0139_01" 903) 603 } := by k_extra "kao"
noncomputable abbrev o604 (P : Params) : Obj := o604S.1 P
noncomputable def o609S : { o : Params → Obj // o = fun P => fO "_law_own_run" "_law_own_run" (s1 45) .none (vS "law_np0139_01" 903) 608 } := by k_extra "kao"
noncomputable abbrev o609 (P : Params) : Obj := o609S.1 P
noncomputable def o614S : { o : Params → Obj // o = fun P => fO "_law_own_step" "_law_own_step" (s1 46) .none (vS "law_np0139_01" 903) 613 } := by k_extra "kao"
noncomputable abbrev o614 (P : Params) : Obj := o614S.1 P
noncomputable def o619S : { o : Params → Obj // o = fun P => fO "_law_same" "_law_same" (s1 47) .none (vS "law_np0139_01" 903) 618 } := by k_extra "kao"
noncomputable abbrev o619 (P : Params) : Obj := o619S.1 P
noncomputable def o626S : { o : Params → Obj // o = fun P => fO "_law_turn" "_law_turn" (s1 48) .none (vS "law_np0139_01" 903) 625 } := by k_extra "kao"
noncomputable abbrev o626 (P : Params) : Obj := o626S.1 P
noncomputable def o633S : { o : Params → Obj // o = fun P => fO "law" "law" (s1 49) .none (vS "law_np0139_01" 903) 632 } := by k_extra "kao"
noncomputable abbrev o633 (P : Params) : Obj := o633S.1 P
noncomputable def K9 : Params → Frag := fun P =>
 (nat_lit 2, { cls := Value.none, data := Data.dict #[{ hash := PyData.keyHash P (Str.ofString "type.__subclasses__.Exception.0"), key := Value.str (Str.ofString "type.__subclasses__.Exception.0") 221, val := Value.int 38 0 }, { hash := PyData.keyHash P (Str.ofString "type.__subclasses__.Exception.n"), key := Value.str (Str.ofString "type.__subclasses__.Exception.n") 222, val := Value.int 2 0 }, { hash := PyData.keyHash P (Str.ofString "type.__subclasses__.Exception.1"), key := Value.str (Str.ofString "type.__subclasses__.Exception.1") 297, val := Value.int 84 0 }] 3 }) ::
 (nat_lit 3, { cls := Value.type "dict", data := Data.dict #[{ hash := PyData.keyHash P (Str.ofString "__name__"), key := Value.str (Str.ofString "__name__") 165, val := Value.str (Str.ofString "law_np0139_01") 903 }, { hash := PyData.keyHash P (Str.ofString "__doc__"), key := Value.str (Str.ofString "__doc__") 166, val := Value.none }, { hash := PyData.keyHash P (Str.ofString "__package__"), key := Value.str (Str.ofString "__package__") 167, val := Value.none }, { hash := PyData.keyHash P (Str.ofString "__loader__"), key := Value.str (Str.ofString "__loader__") 168, val := Value.builtin "__main__.__loader__#opaque" }, { hash := PyData.keyHash P (Str.ofString "__spec__"), key := Value.str (Str.ofString "__spec__") 169, val := Value.none }, { hash := PyData.keyHash P (Str.ofString "__annotations__"), key := Value.str (Str.ofString "__annotations__") 170, val := Value.ref 6 }, { hash := PyData.keyHash P (Str.ofString "__builtins__"), key := Value.str (Str.ofString "__builtins__") 171, val := Value.ref 4 }, { hash := PyData.keyHash P (Str.ofString "__file__"), key := Value.str (Str.ofString "__file__") 173, val := Value.str (Str.ofString "/claim/cut.py") 172 }, { hash := PyData.keyHash P (Str.ofString "__cached__"), key := Value.str (Str.ofString "__cached__") 174, val := Value.none }, { hash := PyData.keyHash P (Str.ofString "_wall"), key := Value.str (Str.ofString "_wall") 193, val := Value.ref 21 }, { hash := PyData.keyHash P (Str.ofString "TclFault"), key := Value.str (Str.ofString "TclFault") 224, val := Value.ref 38 }, { hash := PyData.keyHash P (Str.ofString "Misused"), key := Value.str (Str.ofString "Misused") 240, val := Value.ref 51 }, { hash := PyData.keyHash P (Str.ofString "OutOfFuel"), key := Value.str (Str.ofString "OutOfFuel") 256, val := Value.ref 63 }, { hash := PyData.keyHash P (Str.ofString "Raised"), key := Value.str (Str.ofString "Raised") 300, val := Value.ref 84 }, { hash := PyData.keyHash P (Str.ofString "Nest"), key := Value.str (Str.ofString "Nest") 336, val := Value.ref 105 }, { hash := PyData.keyHash P (Str.ofString "Pause"), key := Value.str (Str.ofString "Pause") 367, val := Value.ref 126 }, { hash := PyData.keyHash P (Str.ofString "error"), key := Value.str (Str.ofString "error") 376, val := Value.ref 139 }, { hash := PyData.keyHash P (Str.ofString "cut"), key := Value.str (Str.ofString "cut") 384, val := Value.ref 146 }, { hash := PyData.keyHash P (Str.ofString "note_row"), key := Value.str (Str.ofString "note_row") 392, val := Value.ref 153 }, { hash := PyData.keyHash P (Str.ofString "end_return"), key := Value.str (Str.ofString "end_return") 399, val := Value.ref 160 }, { hash := PyData.keyHash P (Str.ofString "end_proc"), key := Value.str (Str.ofString "end_proc") 409, val := Value.ref 167 }, { hash := PyData.keyHash P (Str.ofString "told"), key := Value.str (Str.ofString "told") 418, val := Value.ref 174 }, { hash := PyData.keyHash P (Str.ofString "run_event"), key := Value.str (Str.ofString "run_event") 428, val := Value.ref 181 }, { hash := PyData.keyHash P (Str.ofString "run_idle"), key := Value.str (Str.ofString "run_idle") 438, val := Value.ref 188 }, { hash := PyData.keyHash P (Str.ofString "run_timer"), key := Value.str (Str.ofString "run_timer") 447, val := Value.ref 195 }, { hash := PyData.keyHash P (Str.ofString "name_of"), key := Value.str (Str.ofString "name_of") 454, val := Value.ref 202 }, { hash := PyData.keyHash P (Str.ofString "all_events"), key := Value.str (Str.ofString "all_events") 460, val := Value.ref 207 }, { hash := PyData.keyHash P (Str.ofString "event_named"), key := Value.str (Str.ofString "event_named") 469, val := Value.ref 214 }, { hash := PyData.keyHash P (Str.ofString "event_of"), key := Value.str (Str.ofString "event_of") 478, val := Value.ref 221 }, { hash := PyData.keyHash P (Str.ofString "Events"), key := Value.str (Str.ofString "Events") 546, val := Value.ref 265 }, { hash := PyData.keyHash P (Str.ofString "Var"), key := Value.str (Str.ofString "Var") 581, val := Value.ref 286 }, { hash := PyData.keyHash P (Str.ofString "Host"), key := Value.str (Str.ofString "Host") 695, val := Value.ref 371 }, { hash := PyData.keyHash P (Str.ofString "no_variable"), key := Value.str (Str.ofString "no_variable") 704, val := Value.ref 382 }, { hash := PyData.keyHash P (Str.ofString "var_in"), key := Value.str (Str.ofString "var_in") 712, val := Value.ref 389 }, { hash := PyData.keyHash P (Str.ofString "put_value"), key := Value.str (Str.ofString "put_value") 721, val := Value.ref 396 }, { hash := PyData.keyHash P (Str.ofString "elements_in"), key := Value.str (Str.ofString "elements_in") 731, val := Value.ref 403 }, { hash := PyData.keyHash P (Str.ofString "pair_of"), key := Value.str (Str.ofString "pair_of") 738, val := Value.ref 410 }, { hash := PyData.keyHash P (Str.ofString "act"), key := Value.str (Str.ofString "act") 748, val := Value.ref 417 }, { hash := PyData.keyHash P (Str.ofString "SmallHost"), key := Value.str (Str.ofString "SmallHost") 902, val := Value.ref 534 }, { hash := PyData.keyHash P (Str.ofString "_law_names"), key := Value.str (Str.ofString "_law_names") 910, val := Value.ref 543 }, { hash := PyData.keyHash P (Str.ofString "_law_wait"), key := Value.str (Str.ofString "_law_wait") 917, val := Value.ref 550 }, { hash := PyData.keyHash P (Str.ofString "_law_what"), key := Value.str (Str.ofString "_law_what") 924, val := Value.ref 557 }, { hash := PyData.keyHash P (Str.ofString "_law_acts"), key := Value.str (Str.ofString "_law_acts") 937, val := Value.ref 564 }, { hash := PyData.keyHash P (Str.ofString "_law_deed"), key := Value.str (Str.ofString "_law_deed") 948, val := Value.ref 571 }, { hash := PyData.keyHash P (Str.ofString "_law_done"), key := Value.str (Str.ofString "_law_done") 960, val := Value.ref 578 }, { hash := PyData.keyHash P (Str.ofString "_law_command"), key := Value.str (Str.ofString "_law_command") 973, val := Value.ref 585 }, { hash := PyData.keyHash P (Str.ofString "_law_run"), key := Value.str (Str.ofString "_law_run") 981, val := Value.ref 592 }, { hash := PyData.keyHash P (Str.ofString "_law_told"), key := Value.str (Str.ofString "_law_told") 989, val := Value.ref 599 }, { hash := PyData.keyHash P (Str.ofString "_law_own"), key := Value.str (Str.ofString "_law_own") 995, val := Value.ref 604 }, { hash := PyData.keyHash P (Str.ofString "_law_own_run"), key := Value.str (Str.ofString "_law_own_run") 1001, val := Value.ref 609 }, { hash := PyData.keyHash P (Str.ofString "_law_own_step"), key := Value.str (Str.ofString "_law_own_step") 1007, val := Value.ref 614 }, { hash := PyData.keyHash P (Str.ofString "_law_same"), key := Value.str (Str.ofString "_law_same") 1013, val := Value.ref 619 }, { hash := PyData.keyHash P (Str.ofString "_law_turn"), key := Value.str (Str.ofString "_law_turn") 1026, val := Value.ref 626 }, { hash := PyData.keyHash P (Str.ofString "law"), key := Value.str (Str.ofString "law") 1043, val := Value.ref 633 }] 54 }) ::
 (nat_lit 73, { cls := Value.type "tuple", data := Data.seq #[Value.str (Str.ofString "NONE") 269] }) ::
 (nat_lit 74, { cls := Value.type "tuple", data := Data.seq #[Value.ref 73, Value.int 0 270, Value.int 0 271] }) ::
 (nat_lit 80, { cls := Value.type "code", data := Data.fields #[Value.str (Str.ofString "__init__") 272, Value.str (Str.ofString "Raised.__init__") 273, Value.str (Str.ofString "/claim/cut.py") 274, Value.int 16 0, Value.int 6 0, Value.int 0 0, Value.int 0 0, Value.int 3 0, Value.ref 75, Value.bool true, Value.int 181 0, Value.ref 76, Value.none, Value.ref 77, Value.ref 78, Value.ref 79, Value.int 281 0, Value.int 16 0, Value.str (Str.ofString "/claim/cut.py") 282] }) ::
 (nat_lit 81, o81 P) ::
 (nat_lit 83, { cls := Value.type "dict", data := Data.dict #[{ hash := PyData.keyHash P (Str.ofString "__module__"), key := Value.str (Str.ofString "__module__") 264, val := Value.str (Str.ofString "tclcore.faults") 194 }, { hash := PyData.keyHash P (Str.ofString "__firstlineno__"), key := Value.str (Str.ofString "__firstlineno__") 268, val := Value.int 14 267 }, { hash := PyData.keyHash P (Str.ofString "__init__"), key := Value.str (Str.ofString "__init__") 283, val := Value.ref 81 }, { hash := PyData.keyHash P (Str.ofString "__static_attributes__"), key := Value.str (Str.ofString "__static_attributes__") 293, val := Value.ref 82 }, { hash := PyData.keyHash P (Str.ofString "__weakref__"), key := Value.str (Str.ofString "__weakref__") 295, val := Value.ref 85 }, { hash := PyData.keyHash P (Str.ofString "__doc__"), key := Value.str (Str.ofString "__doc__") 296, val := Value.none }] 3 }) ::
 (nat_lit 84, { cls := Value.type "type", data := Data.cls { name := Str.ofString "Raised", bases := [Value.type "Exception"], mro := [Value.ref 84, Value.type "Exception", Value.type "BaseException", Value.type "object"], ns := 83, qualname := Str.ofString "Raised" }, slots := #[some (Value.ref 66), none, some (Value.str (Str.ofString "Raised") 257), some (Value.str (Str.ofString "Raised") 265), some (Value.builtin "Exception.__new__"), some (Value.bool true)] }) ::
 (nat_lit 104, { cls := Value.type "dict", data := Data.dict #[{ hash := PyData.keyHash P (Str.ofString "__module__"), key := Value.str (Str.ofString "__module__") 308, val := Value.str (Str.ofString "tclcore.faults") 194 }, { hash := PyData.keyHash P (Str.ofString "__firstlineno__"), key := Value.str (Str.ofString "__firstlineno__") 312, val := Value.int 27 311 }, { hash := PyData.keyHash P (Str.ofString "__init__"), key := Value.str (Str.ofString "__init__") 324, val := Value.ref 102 }, { hash := PyData.keyHash P (Str.ofString "__static_attributes__"), key := Value.str (Str.ofString "__static_attributes__") 329, val := Value.ref 103 }, { hash := PyData.keyHash P (Str.ofString "__dict__"), key := Value.str (Str.ofString "__dict__") 331, val := Value.ref 106 }, { hash := PyData.keyHash P (Str.ofString "__weakref__"), key := Value.str (Str.ofString "__weakref__") 333, val := Value.ref 107 }, { hash := PyData.keyHash P (Str.ofString "__doc__"), key := Value.str (Str.ofString "__doc__") 334, val := Value.none }] 4 }) ::
 (nat_lit 105, { cls := Value.type "type", data := Data.cls { name := Str.ofString "Nest", bases := [Value.type "object"], mro := [Value.ref 105, Value.type "object"], ns := 104, qualname := Str.ofString "Nest" }, slots := #[none, none, some (Value.str (Str.ofString "Nest") 301), some (Value.str (Str.ofString "Nest") 309), some (Value.builtin "object.__new__"), some (Value.bool true)] }) ::
 (nat_lit 125, { cls := Value.type "dict", data := Data.dict #[{ hash := PyData.keyHash P (Str.ofString "__module__"), key := Value.str (Str.ofString "__module__") 344, val := Value.str (Str.ofString "tclcore.faults") 194 }, { hash := PyData.keyHash P (Str.ofString "__firstlineno__"), key := Value.str (Str.ofString "__firstlineno__") 348, val := Value.int 34 347 }, { hash := PyData.keyHash P (Str.ofString "__init__"), key := Value.str (Str.ofString "__init__") 357, val := Value.ref 123 }, { hash := PyData.keyHash P (Str.ofString "__static_attributes__"), key := Value.str (Str.ofString "__static_attributes__") 360, val := Value.ref 124 }, { hash := PyData.keyHash P (Str.ofString "__dict__"), key := Value.str (Str.ofString "__dict__") 362, val := Value.ref 127 }, { hash := PyData.keyHash P (Str.ofString "__weakref__"), key := Value.str (Str.ofString "__weakref__") 364, val := Value.ref 128 }, { hash := PyData.keyHash P (Str.ofString "__doc__"), key := Value.str (Str.ofString "__doc__") 365, val := Value.none }] 4 }) ::
 (nat_lit 126, { cls := Value.type "type", data := Data.cls { name := Str.ofString "Pause", bases := [Value.type "object"], mro := [Value.ref 126, Value.type "object"], ns := 125, qualname := Str.ofString "Pause" }, slots := #[none, none, some (Value.str (Str.ofString "Pause") 337), some (Value.str (Str.ofString "Pause") 345), some (Value.builtin "object.__new__"), some (Value.bool true)] }) ::
 (nat_lit 173, { cls := Value.type "code", data := Data.fields #[Value.str (Str.ofString "told") 412, Value.str (Str.ofString "told") 413, Value.str (Str.ofString "/claim/cut.py") 414, Value.int 75 0, Value.int 1 0, Value.int 0 0, Value.int 0 0, Value.int 3 0, Value.ref 168, Value.bool true, Value.int 181 0, Value.ref 169, Value.none, Value.ref 170, Value.ref 171, Value.ref 172, Value.int 416 0, Value.int 75 0, Value.str (Str.ofString "/claim/cut.py") 417] }) ::
 (nat_lit 174, o174 P) ::
 (nat_lit 180, { cls := Value.type "code", data := Data.fields #[Value.str (Str.ofString "run_event") 419, Value.str (Str.ofString "run_event") 420, Value.str (Str.ofString "/claim/cut.py") 421, Value.int 83 0, Value.int 3 0, Value.int 0 0, Value.int 0 0, Value.int 3 0, Value.ref 175, Value.bool true, Value.int 181 0, Value.ref 176, Value.none, Value.ref 177, Value.ref 178, Value.ref 179, Value.int 426 0, Value.int 83 0, Value.str (Str.ofString "/claim/cut.py") 427] }) ::
 (nat_lit 181, o181 P) ::
 (nat_lit 187, { cls := Value.type "code", data := Data.fields #[Value.str (Str.ofString "run_idle") 429, Value.str (Str.ofString "run_idle") 430, Value.str (Str.ofString "/claim/cut.py") 431, Value.int 88 0, Value.int 2 0, Value.int 0 0, Value.int 0 0, Value.int 3 0, Value.ref 182, Value.bool true, Value.int 181 0, Value.ref 183, Value.none, Value.ref 184, Value.ref 185, Value.ref 186, Value.int 436 0, Value.int 88 0, Value.str (Str.ofString "/claim/cut.py") 437] }) ::
 (nat_lit 188, o188 P) ::
 (nat_lit 194, { cls := Value.type "code", data := Data.fields #[Value.str (Str.ofString "run_timer") 439, Value.str (Str.ofString "run_timer") 440, Value.str (Str.ofString "/claim/cut.py") 441, Value.int 94 0, Value.int 2 0, Value.int 0 0, Value.int 0 0, Value.int 3 0, Value.ref 189, Value.bool true, Value.int 181 0, Value.ref 190, Value.none, Value.ref 191, Value.ref 192, Value.ref 193, Value.int 445 0, Value.int 94 0, Value.str (Str.ofString "/claim/cut.py") 446] }) ::
 (nat_lit 195, o195 P) ::
 (nat_lit 201, { cls := Value.type "code", data := Data.fields #[Value.str (Str.ofString "name_of") 448, Value.str (Str.ofString "name_of") 449, Value.str (Str.ofString "/claim/cut.py") 450, Value.int 98 0, Value.int 1 0, Value.int 0 0, Value.int 0 0, Value.int 3 0, Value.ref 196, Value.bool true, Value.int 181 0, Value.ref 197, Value.none, Value.ref 198, Value.ref 199, Value.ref 200, Value.int 452 0, Value.int 98 0, Value.str (Str.ofString "/claim/cut.py") 453] }) ::
 (nat_lit 202, o202 P) ::
 (nat_lit 206, { cls := Value.type "code", data := Data.fields #[Value.str (Str.ofString "all_events") 455, Value.str (Str.ofString "all_events") 456, Value.str (Str.ofString "/claim/cut.py") 457, Value.int 100 0, Value.int 1 0, Value.int 0 0, Value.int 0 0, Value.int 3 0, Value.ref 203, Value.bool true, Value.int 181 0, Value.ref 204, Value.none, Value.none, Value.none, Value.ref 205, Value.int 458 0, Value.int 100 0, Value.str (Str.ofString "/claim/cut.py") 459] }) ::
 (nat_lit 207, o207 P) ::
 (nat_lit 213, { cls := Value.type "code", data := Data.fields #[Value.str (Str.ofString "event_named") 461, Value.str (Str.ofString "event_named") 462, Value.str (Str.ofString "/claim/cut.py") 463, Value.int 109 0, Value.int 2 0, Value.int 0 0, Value.int 0 0, Value.int 3 0, Value.ref 208, Value.bool true, Value.int 181 0, Value.ref 209, Value.none, Value.ref 210, Value.ref 211, Value.ref 212, Value.int 467 0, Value.int 109 0, Value.str (Str.ofString "/claim/cut.py") 468] }) ::
 (nat_lit 214, o214 P) ::
 (nat_lit 220, { cls := Value.type "code", data := Data.fields #[Value.str (Str.ofString "event_of") 470, Value.str (Str.ofString "event_of") 471, Value.str (Str.ofString "/claim/cut.py") 472, Value.int 114 0, Value.int 2 0, Value.int 0 0, Value.int 0 0, Value.int 3 0, Value.ref 215, Value.bool true, Value.int 181 0, Value.ref 216, Value.none, Value.ref 217, Value.ref 218, Value.ref 219, Value.int 476 0, Value.int 114 0, Value.str (Str.ofString "/claim/cut.py") 477] }) ::
 (nat_lit 221, o221 P) ::
 (nat_lit 229, { cls := Value.type "tuple", data := Data.seq #[Value.int 0 491] }) ::
 (nat_lit 235, { cls := Value.type "code", data := Data.fields #[Value.str (Str.ofString "__init__") 492, Value.str (Str.ofString "Events.__init__") 493, Value.str (Str.ofString "/claim/cut.py") 494, Value.int 121 0, Value.int 2 0, Value.int 0 0, Value.int 0 0, Value.int 3 0, Value.ref 230, Value.bool true, Value.int 181 0, Value.ref 231, Value.none, Value.ref 232, Value.ref 233, Value.ref 234, Value.int 497 0, Value.int 121 0, Value.str (Str.ofString "/claim/cut.py") 498] }) ::
 (nat_lit 236, o236 P) ::
 (nat_lit 242, { cls := Value.type "code", data := Data.fields #[Value.str (Str.ofString "after") 500, Value.str (Str.ofString "Events.after") 501, Value.str (Str.ofString "/claim/cut.py") 502, Value.int 128 0, Value.int 3 0, Value.int 0 0, Value.int 0 0, Value.int 3 0, Value.ref 237, Value.bool true, Value.int 181 0, Value.ref 238, Value.none, Value.ref 239, Value.ref 240, Value.ref 241, Value.int 508 0, Value.int 128 0, Value.str (Str.ofString "/claim/cut.py") 509] }) ::
 (nat_lit 243, o243 P) ::
 (nat_lit 249, { cls := Value.type "code", data := Data.fields #[Value.str (Str.ofString "when_idle") 511, Value.str (Str.ofString "Events.when_idle") 512, Value.str (Str.ofString "/claim/cut.py") 513, Value.int 137 0, Value.int 2 0, Value.int 0 0, Value.int 0 0, Value.int 3 0, Value.ref 244, Value.bool true, Value.int 181 0, Value.ref 245, Value.none, Value.ref 246, Value.ref 247, Value.ref 248, Value.int 516 0, Value.int 137 0, Value.str (Str.ofString "/claim/cut.py") 517] }) ::
 (nat_lit 250, o250 P) ::
 (nat_lit 254, { cls := Value.type "code", data := Data.fields #[Value.str (Str.ofString "cancel") 519, Value.str (Str.ofString "Events.cancel") 520, Value.str (Str.ofString "/claim/cut.py") 521, Value.int 142 0, Value.int 2 0, Value.int 0 0, Value.int 0 0, Value.int 3 0, Value.ref 251, Value.bool true, Value.int 181 0, Value.ref 252, Value.none, Value.none, Value.none, Value.ref 253, Value.int 522 0, Value.int 142 0, Value.str (Str.ofString "/claim/cut.py") 523] }) ::
 (nat_lit 255, o255 P) ::
 (nat_lit 261, { cls := Value.type "code", data := Data.fields #[Value.str (Str.ofString "step") 525, Value.str (Str.ofString "Events.step") 526, Value.str (Str.ofString "/claim/cut.py") 527, Value.int 150 0, Value.int 3 0, Value.int 0 0, Value.int 0 0, Value.int 3 0, Value.ref 256, Value.bool true, Value.int 181 0, Value.ref 257, Value.none, Value.ref 258, Value.ref 259, Value.ref 260, Value.int 531 0, Value.int 150 0, Value.str (Str.ofString "/claim/cut.py") 532] }) ::
 (nat_lit 262, o262 P) ::
 (nat_lit 264, { cls := Value.type "dict", data := Data.dict #[{ hash := PyData.keyHash P (Str.ofString "__module__"), key := Value.str (Str.ofString "__module__") 486, val := Value.str (Str.ofString "tclcore.events") 410 }, { hash := PyData.keyHash P (Str.ofString "__firstlineno__"), key := Value.str (Str.ofString "__firstlineno__") 490, val := Value.int 119 489 }, { hash := PyData.keyHash P (Str.ofString "__init__"), key := Value.str (Str.ofString "__init__") 499, val := Value.ref 236 }, { hash := PyData.keyHash P (Str.ofString "after"), key := Value.str (Str.ofString "after") 510, val := Value.ref 243 }, { hash := PyData.keyHash P (Str.ofString "when_idle"), key := Value.str (Str.ofString "when_idle") 518, val := Value.ref 250 }, { hash := PyData.keyHash P (Str.ofString "cancel"), key := Value.str (Str.ofString "cancel") 524, val := Value.ref 255 }, { hash := PyData.keyHash P (Str.ofString "step"), key := Value.str (Str.ofString "step") 533, val := Value.ref 262 }, { hash := PyData.keyHash P (Str.ofString "__static_attributes__"), key := Value.str (Str.ofString "__static_attributes__") 539, val := Value.ref 263 }, { hash := PyData.keyHash P (Str.ofString "__dict__"), key := Value.str (Str.ofString "__dict__") 541, val := Value.ref 266 }, { hash := PyData.keyHash P (Str.ofString "__weakref__"), key := Value.str (Str.ofString "__weakref__") 543, val := Value.ref 267 }, { hash := PyData.keyHash P (Str.ofString "__doc__"), key := Value.str (Str.ofString "__doc__") 544, val := Value.none }] 4 }) ::
 (nat_lit 265, { cls := Value.type "type", data := Data.cls { name := Str.ofString "Events", bases := [Value.type "object"], mro := [Value.ref 265, Value.type "object"], ns := 264, qualname := Str.ofString "Events" }, slots := #[none, none, some (Value.str (Str.ofString "Events") 479), some (Value.str (Str.ofString "Events") 487), some (Value.builtin "object.__new__"), some (Value.bool true)] }) ::
 (nat_lit 298, { cls := Value.type "tuple", data := Data.seq #[Value.int 40 596, Value.none] }) ::
 (nat_lit 304, { cls := Value.type "code", data := Data.fields #[Value.str (Str.ofString "__init__") 597, Value.str (Str.ofString "Host.__init__") 598, Value.str (Str.ofString "/claim/cut.py") 599, Value.int 173 0, Value.int 3 0, Value.int 0 0, Value.int 0 0, Value.int 3 0, Value.ref 299, Value.bool true, Value.int 181 0, Value.ref 300, Value.none, Value.ref 301, Value.ref 302, Value.ref 303, Value.int 603 0, Value.int 173 0, Value.str (Str.ofString "/claim/cut.py") 604] }) ::
 (nat_lit 305, o305 P) ::
 (nat_lit 311, { cls := Value.type "code", data := Data.fields #[Value.str (Str.ofString "tool") 606, Value.str (Str.ofString "Host.tool") 607, Value.str (Str.ofString "/claim/cut.py") 608, Value.int 184 0, Value.int 2 0, Value.int 0 0, Value.int 0 0, Value.int 3 0, Value.ref 306, Value.bool true, Value.int 181 0, Value.ref 307, Value.none, Value.ref 308, Value.ref 309, Value.ref 310, Value.int 611 0, Value.int 184 0, Value.str (Str.ofString "/claim/cut.py") 612] }) ::
 (nat_lit 312, o312 P) ::
 (nat_lit 318, { cls := Value.type "code", data := Data.fields #[Value.str (Str.ofString "spend") 614, Value.str (Str.ofString "Host.spend") 615, Value.str (Str.ofString "/claim/cut.py") 616, Value.int 189 0, Value.int 1 0, Value.int 0 0, Value.int 0 0, Value.int 3 0, Value.ref 313, Value.bool true, Value.int 181 0, Value.ref 314, Value.none, Value.ref 315, Value.ref 316, Value.ref 317, Value.int 618 0, Value.int 189 0, Value.str (Str.ofString "/claim/cut.py") 619] }) ::
 (nat_lit 319, o319 P) ::
 (nat_lit 332, { cls := Value.type "code", data := Data.fields #[Value.str (Str.ofString "run") 628, Value.str (Str.ofString "Host.run") 629, Value.str (Str.ofString "/claim/cut.py") 630, Value.int 197 0, Value.int 2 0, Value.int 0 0, Value.int 0 0, Value.int 3 0, Value.ref 327, Value.bool true, Value.int 181 0, Value.ref 328, Value.none, Value.ref 329, Value.ref 330, Value.ref 331, Value.int 634 0, Value.int 197 0, Value.str (Str.ofString "/claim/cut.py") 635] }) ::
 (nat_lit 333, o333 P) ::
 (nat_lit 339, { cls := Value.type "code", data := Data.fields #[Value.str (Str.ofString "run_global") 637, Value.str (Str.ofString "Host.run_global") 638, Value.str (Str.ofString "/claim/cut.py") 639, Value.int 207 0, Value.int 2 0, Value.int 0 0, Value.int 0 0, Value.int 3 0, Value.ref 334, Value.bool true, Value.int 181 0, Value.ref 335, Value.none, Value.ref 336, Value.ref 337, Value.ref 338, Value.int 642 0, Value.int 207 0, Value.str (Str.ofString "/claim/cut.py") 643] }) ::
 (nat_lit 340, o340 P) ::
 (nat_lit 346, { cls := Value.type "code", data := Data.fields #[Value.str (Str.ofString "call") 645, Value.str (Str.ofString "Host.call") 646, Value.str (Str.ofString "/claim/cut.py") 647, Value.int 210 0, Value.int 2 0, Value.int 0 0, Value.int 0 0, Value.int 3 0, Value.ref 341, Value.bool true, Value.int 181 0, Value.ref 342, Value.none, Value.ref 343, Value.ref 344, Value.ref 345, Value.int 651 0, Value.int 210 0, Value.str (Str.ofString "/claim/cut.py") 652] }) ::
 (nat_lit 347, o347 P) ::
 (nat_lit 370, { cls := Value.type "dict", data := Data.dict #[{ hash := PyData.keyHash P (Str.ofString "__module__"), key := Value.str (Str.ofString "__module__") 591, val := Value.str (Str.ofString "tclcore.host") 582 }, { hash := PyData.keyHash P (Str.ofString "__firstlineno__"), key := Value.str (Str.ofString "__firstlineno__") 595, val := Value.int 171 594 }, { hash := PyData.keyHash P (Str.ofString "__init__"), key := Value.str (Str.ofString "__init__") 605, val := Value.ref 305 }, { hash := PyData.keyHash P (Str.ofString "tool"), key := Value.str (Str.ofString "tool") 613, val := Value.ref 312 }, { hash := PyData.keyHash P (Str.ofString "spend"), key := Value.str (Str.ofString "spend") 620, val := Value.ref 319 }, { hash := PyData.keyHash P (Str.ofString "where"), key := Value.str (Str.ofString "where") 627, val := Value.ref 326 }, { hash := PyData.keyHash P (Str.ofString "run"), key := Value.str (Str.ofString "run") 636, val := Value.ref 333 }, { hash := PyData.keyHash P (Str.ofString "run_global"), key := Value.str (Str.ofString "run_global") 644, val := Value.ref 340 }, { hash := PyData.keyHash P (Str.ofString "call"), key := Value.str (Str.ofString "call") 653, val := Value.ref 347 }, { hash := PyData.keyHash P (Str.ofString "finish"), key := Value.str (Str.ofString "finish") 662, val := Value.ref 354 }, { hash := PyData.keyHash P (Str.ofString "leave"), key := Value.str (Str.ofString "leave") 670, val := Value.ref 361 }, { hash := PyData.keyHash P (Str.ofString "outcome"), key := Value.str (Str.ofString "outcome") 678, val := Value.ref 368 }, { hash := PyData.keyHash P (Str.ofString "__static_attributes__"), key := Value.str (Str.ofString "__static_attributes__") 688, val := Value.ref 369 }, { hash := PyData.keyHash P (Str.ofString "__dict__"), key := Value.str (Str.ofString "__dict__") 690, val := Value.ref 372 }, { hash := PyData.keyHash P (Str.ofString "__weakref__"), key := Value.str (Str.ofString "__weakref__") 692, val := Value.ref 373 }, { hash := PyData.keyHash P (Str.ofString "__doc__"), key := Value.str (Str.ofString "__doc__") 693, val := Value.none }] 4 }) ::
 (nat_lit 371, { cls := Value.type "type", data := Data.cls { name := Str.ofString "Host", bases := [Value.type "object"], mro := [Value.ref 371, Value.type "object"], ns := 370, qualname := Str.ofString "Host", subclasses := [Value.ref 534] }, slots := #[none, none, some (Value.str (Str.ofString "Host") 584), some (Value.str (Str.ofString "Host") 592), some (Value.builtin "object.__new__"), some (Value.bool true)] }) ::
 (nat_lit 416, { cls := Value.type "code", data := Data.fields #[Value.str (Str.ofString "act") 739, Value.str (Str.ofString "act") 740, Value.str (Str.ofString "/claim/cut.py") 741, Value.int 258 0, Value.int 4 0, Value.int 0 0, Value.int 0 0, Value.int 3 0, Value.ref 411, Value.bool true, Value.int 181 0, Value.ref 412, Value.none, Value.ref 413, Value.ref 414, Value.ref 415, Value.int 746 0, Value.int 258 0, Value.str (Str.ofString "/claim/cut.py") 747] }) ::
 (nat_lit 417, o417 P) ::
 (nat_lit 425, { cls := Value.type "tuple", data := Data.seq #[Value.int 40 761, Value.none] }) ::
 (nat_lit 431, { cls := Value.type "code", data := Data.fields #[Value.str (Str.ofString "__init__") 762, Value.str (Str.ofString "SmallHost.__init__") 763, Value.str (Str.ofString "/claim/cut.py") 764, Value.int 264 0, Value.int 3 0, Value.int 0 0, Value.int 0 0, Value.int 3 0, Value.ref 426, Value.bool true, Value.int 181 0, Value.ref 427, Value.none, Value.ref 428, Value.ref 429, Value.ref 430, Value.int 768 0, Value.int 264 0, Value.str (Str.ofString "/claim/cut.py") 769] }) ::
 (nat_lit 432, o432 P) ::
 (nat_lit 496, { cls := Value.type "tuple", data := Data.seq #[Value.none] }) ::
 (nat_lit 502, { cls := Value.type "code", data := Data.fields #[Value.str (Str.ofString "put") 849, Value.str (Str.ofString "SmallHost.put") 850, Value.str (Str.ofString "/claim/cut.py") 851, Value.int 300 0, Value.int 4 0, Value.int 0 0, Value.int 0 0, Value.int 3 0, Value.ref 497, Value.bool true, Value.int 181 0, Value.ref 498, Value.none, Value.ref 499, Value.ref 500, Value.ref 501, Value.int 856 0, Value.int 300 0, Value.str (Str.ofString "/claim/cut.py") 857] }) ::
 (nat_lit 503, o503 P) ::
 (nat_lit 509, { cls := Value.type "code", data := Data.fields #[Value.str (Str.ofString "remove") 859, Value.str (Str.ofString "SmallHost.remove") 860, Value.str (Str.ofString "/claim/cut.py") 861, Value.int 304 0, Value.int 2 0, Value.int 0 0, Value.int 0 0, Value.int 3 0, Value.ref 504, Value.bool true, Value.int 181 0, Value.ref 505, Value.none, Value.ref 506, Value.ref 507, Value.ref 508, Value.int 864 0, Value.int 304 0, Value.str (Str.ofString "/claim/cut.py") 865] }) ::
 (nat_lit 510, o510 P) ::
 (nat_lit 530, { cls := Value.type "code", data := Data.fields #[Value.str (Str.ofString "begin") 886, Value.str (Str.ofString "SmallHost.begin") 887, Value.str (Str.ofString "/claim/cut.py") 888, Value.int 319 0, Value.int 2 0, Value.int 0 0, Value.int 0 0, Value.int 3 0, Value.ref 525, Value.bool true, Value.int 181 0, Value.ref 526, Value.none, Value.ref 527, Value.ref 528, Value.ref 529, Value.int 893 0, Value.int 319 0, Value.str (Str.ofString "/claim/cut.py") 894] }) ::
 (nat_lit 531, o531 P) ::
 (nat_lit 533, { cls := Value.type "dict", data := Data.dict #[{ hash := PyData.keyHash P (Str.ofString "__module__"), key := Value.str (Str.ofString "__module__") 756, val := Value.str (Str.ofString "tclcore.host") 582 }, { hash := PyData.keyHash P (Str.ofString "__firstlineno__"), key := Value.str (Str.ofString "__firstlineno__") 760, val := Value.int 262 759 }, { hash := PyData.keyHash P (Str.ofString "__init__"), key := Value.str (Str.ofString "__init__") 770, val := Value.ref 432 }, { hash := PyData.keyHash P (Str.ofString "has"), key := Value.str (Str.ofString "has") 778, val := Value.ref 439 }, { hash := PyData.keyHash P (Str.ofString "place"), key := Value.str (Str.ofString "place") 786, val := Value.ref 446 }, { hash := PyData.keyHash P (Str.ofString "read_var"), key := Value.str (Str.ofString "read_var") 795, val := Value.ref 453 }, { hash := PyData.keyHash P (Str.ofString "write_var"), key := Value.str (Str.ofString "write_var") 805, val := Value.ref 460 }, { hash := PyData.keyHash P (Str.ofString "read"), key := Value.str (Str.ofString "read") 813, val := Value.ref 467 }, { hash := PyData.keyHash P (Str.ofString "write"), key := Value.str (Str.ofString "write") 822, val := Value.ref 474 }, { hash := PyData.keyHash P (Str.ofString "drop"), key := Value.str (Str.ofString "drop") 830, val := Value.ref 481 }, { hash := PyData.keyHash P (Str.ofString "stamp"), key := Value.str (Str.ofString "stamp") 838, val := Value.ref 488 }, { hash := PyData.keyHash P (Str.ofString "array"), key := Value.str (Str.ofString "array") 848, val := Value.ref 495 }, { hash := PyData.keyHash P (Str.ofString "put"), key := Value.str (Str.ofString "put") 858, val := Value.ref 503 }, { hash := PyData.keyHash P (Str.ofString "remove"), key := Value.str (Str.ofString "remove") 866, val := Value.ref 510 }, { hash := PyData.keyHash P (Str.ofString "add"), key := Value.str (Str.ofString "add") 877, val := Value.ref 517 }, { hash := PyData.keyHash P (Str.ofString "is_first"), key := Value.str (Str.ofString "is_first") 885, val := Value.ref 524 }, { hash := PyData.keyHash P (Str.ofString "begin"), key := Value.str (Str.ofString "begin") 895, val := Value.ref 531 }, { hash := PyData.keyHash P (Str.ofString "__static_attributes__"), key := Value.str (Str.ofString "__static_attributes__") 899, val := Value.ref 532 }, { hash := PyData.keyHash P (Str.ofString "__doc__"), key := Value.str (Str.ofString "__doc__") 900, val := Value.none }] 2 }) ::
 (nat_lit 534, { cls := Value.type "type", data := Data.cls { name := Str.ofString "SmallHost", bases := [Value.ref 371], mro := [Value.ref 534, Value.ref 371, Value.type "object"], ns := 533, qualname := Str.ofString "SmallHost" }, slots := #[some (Value.ref 418), none, some (Value.str (Str.ofString "SmallHost") 749), some (Value.str (Str.ofString "SmallHost") 757), some (Value.builtin "object.__new__"), some (Value.bool true)] }) ::
 (nat_lit 542, { cls := Value.type "code", data := Data.fields #[Value.str (Str.ofString "_law_names") 905, Value.str (Str.ofString "_law_names") 906, Value.str (Str.ofString "/claim/cut.py") 907, Value.int 326 0, Value.int 0 0, Value.int 0 0, Value.int 0 0, Value.int 3 0, Value.ref 537, Value.bool true, Value.int 181 0, Value.ref 538, Value.none, Value.ref 539, Value.ref 540, Value.ref 541, Value.int 908 0, Value.int 326 0, Value.str (Str.ofString "/claim/cut.py") 909] }) ::
 (nat_lit 543, o543 P) ::
 (nat_lit 549, { cls := Value.type "code", data := Data.fields #[Value.str (Str.ofString "_law_wait") 911, Value.str (Str.ofString "_law_wait") 912, Value.str (Str.ofString "/claim/cut.py") 913, Value.int 328 0, Value.int 1 0, Value.int 0 0, Value.int 0 0, Value.int 3 0, Value.ref 544, Value.bool true, Value.int 181 0, Value.ref 545, Value.none, Value.ref 546, Value.ref 547, Value.ref 548, Value.int 915 0, Value.int 328 0, Value.str (Str.ofString "/claim/cut.py") 916] }) ::
 (nat_lit 550, o550 P) ::
 (nat_lit 556, { cls := Value.type "code", data := Data.fields #[Value.str (Str.ofString "_law_what") 918, Value.str (Str.ofString "_law_what") 919, Value.str (Str.ofString "/claim/cut.py") 920, Value.int 330 0, Value.int 1 0, Value.int 0 0, Value.int 0 0, Value.int 3 0, Value.ref 551, Value.bool true, Value.int 181 0, Value.ref 552, Value.none, Value.ref 553, Value.ref 554, Value.ref 555, Value.int 922 0, Value.int 330 0, Value.str (Str.ofString "/claim/cut.py") 923] }) ::
 (nat_lit 557, o557 P) ::
 (nat_lit 563, { cls := Value.type "code", data := Data.fields #[Value.str (Str.ofString "_law_acts") 925, Value.str (Str.ofString "_law_acts") 926, Value.str (Str.ofString "/claim/cut.py") 927, Value.int 332 0, Value.int 2 0, Value.int 0 0, Value.int 0 0, Value.int 3 0, Value.ref 558, Value.bool true, Value.int 181 0, Value.ref 559, Value.none, Value.ref 560, Value.ref 561, Value.ref 562, Value.int 935 0, Value.int 332 0, Value.str (Str.ofString "/claim/cut.py") 936] }) ::
 (nat_lit 564, o564 P) ::
 (nat_lit 570, { cls := Value.type "code", data := Data.fields #[Value.str (Str.ofString "_law_deed") 938, Value.str (Str.ofString "_law_deed") 939, Value.str (Str.ofString "/claim/cut.py") 940, Value.int 349 0, Value.int 2 0, Value.int 0 0, Value.int 0 0, Value.int 3 0, Value.ref 565, Value.bool true, Value.int 181 0, Value.ref 566, Value.none, Value.ref 567, Value.ref 568, Value.ref 569, Value.int 946 0, Value.int 349 0, Value.str (Str.ofString "/claim/cut.py") 947] }) ::
 (nat_lit 571, o571 P) ::
 (nat_lit 577, { cls := Value.type "code", data := Data.fields #[Value.str (Str.ofString "_law_done") 949, Value.str (Str.ofString "_law_done") 950, Value.str (Str.ofString "/claim/cut.py") 951, Value.int 360 0, Value.int 3 0, Value.int 0 0, Value.int 0 0, Value.int 3 0, Value.ref 572, Value.bool true, Value.int 181 0, Value.ref 573, Value.none, Value.ref 574, Value.ref 575, Value.ref 576, Value.int 958 0, Value.int 360 0, Value.str (Str.ofString "/claim/cut.py") 959] }) ::
 (nat_lit 578, o578 P) ::
 (nat_lit 584, { cls := Value.type "code", data := Data.fields #[Value.str (Str.ofString "_law_command") 961, Value.str (Str.ofString "_law_command") 962, Value.str (Str.ofString "/claim/cut.py") 963, Value.int 370 0, Value.int 3 0, Value.int 0 0, Value.int 0 0, Value.int 3 0, Value.ref 579, Value.bool true, Value.int 181 0, Value.ref 580, Value.none, Value.ref 581, Value.ref 582, Value.ref 583, Value.int 971 0, Value.int 370 0, Value.str (Str.ofString "/claim/cut.py") 972] }) ::
 (nat_lit 585, o585 P) ::
 (nat_lit 591, { cls := Value.type "code", data := Data.fields #[Value.str (Str.ofString "_law_run") 974, Value.str (Str.ofString "_law_run") 975, Value.str (Str.ofString "/claim/cut.py") 976, Value.int 378 0, Value.int 2 0, Value.int 0 0, Value.int 0 0, Value.int 3 0, Value.ref 586, Value.bool true, Value.int 181 0, Value.ref 587, Value.none, Value.ref 588, Value.ref 589, Value.ref 590, Value.int 979 0, Value.int 378 0, Value.str (Str.ofString "/claim/cut.py") 980] }) ::
 (nat_lit 592, o592 P) ::
 (nat_lit 598, { cls := Value.type "code", data := Data.fields #[Value.str (Str.ofString "_law_told") 982, Value.str (Str.ofString "_law_told") 983, Value.str (Str.ofString "/claim/cut.py") 984, Value.int 380 0, Value.int 2 0, Value.int 0 0, Value.int 0 0, Value.int 3 0, Value.ref 593, Value.bool true, Value.int 181 0, Value.ref 594, Value.none, Value.ref 595, Value.ref 596, Value.ref 597, Value.int 987 0, Value.int 380 0, Value.str (Str.ofString "/claim/cut.py") 988] }) ::
 (nat_lit 599, o599 P) ::
 (nat_lit 603, { cls := Value.type "code", data := Data.fields #[Value.str (Str.ofString "_law_own") 990, Value.str (Str.ofString "_law_own") 991, Value.str (Str.ofString "/claim/cut.py") 992, Value.int 386 0, Value.int 2 0, Value.int 0 0, Value.int 0 0, Value.int 3 0, Value.ref 600, Value.bool true, Value.int 181 0, Value.ref 601, Value.none, Value.none, Value.none, Value.ref 602, Value.int 993 0, Value.int 386 0, Value.str (Str.ofString "/claim/cut.py") 994] }) ::
 (nat_lit 604, o604 P) ::
 (nat_lit 608, { cls := Value.type "code", data := Data.fields #[Value.str (Str.ofString "_law_own_run") 996, Value.str (Str.ofString "_law_own_run") 997, Value.str (Str.ofString "/claim/cut.py") 998, Value.int 400 0, Value.int 3 0, Value.int 0 0, Value.int 0 0, Value.int 3 0, Value.ref 605, Value.bool true, Value.int 181 0, Value.ref 606, Value.none, Value.none, Value.none, Value.ref 607, Value.int 999 0, Value.int 400 0, Value.str (Str.ofString "/claim/cut.py") 1000] }) ::
 (nat_lit 609, o609 P) ::
 (nat_lit 613, { cls := Value.type "code", data := Data.fields #[Value.str (Str.ofString "_law_own_step") 1002, Value.str (Str.ofString "_law_own_step") 1003, Value.str (Str.ofString "/claim/cut.py") 1004, Value.int 409 0, Value.int 3 0, Value.int 0 0, Value.int 0 0, Value.int 3 0, Value.ref 610, Value.bool true, Value.int 181 0, Value.ref 611, Value.none, Value.none, Value.none, Value.ref 612, Value.int 1005 0, Value.int 409 0, Value.str (Str.ofString "/claim/cut.py") 1006] }) ::
 (nat_lit 614, o614 P) ::
 (nat_lit 618, { cls := Value.type "code", data := Data.fields #[Value.str (Str.ofString "_law_same") 1008, Value.str (Str.ofString "_law_same") 1009, Value.str (Str.ofString "/claim/cut.py") 1010, Value.int 421 0, Value.int 3 0, Value.int 0 0, Value.int 0 0, Value.int 3 0, Value.ref 615, Value.bool true, Value.int 181 0, Value.ref 616, Value.none, Value.none, Value.none, Value.ref 617, Value.int 1011 0, Value.int 421 0, Value.str (Str.ofString "/claim/cut.py") 1012] }) ::
 (nat_lit 619, o619 P) ::
 (nat_lit 625, { cls := Value.type "code", data := Data.fields #[Value.str (Str.ofString "_law_turn") 1014, Value.str (Str.ofString "_law_turn") 1015, Value.str (Str.ofString "/claim/cut.py") 1016, Value.int 427 0, Value.int 6 0, Value.int 0 0, Value.int 0 0, Value.int 3 0, Value.ref 620, Value.bool true, Value.int 181 0, Value.ref 621, Value.none, Value.ref 622, Value.ref 623, Value.ref 624, Value.int 1024 0, Value.int 427 0, Value.str (Str.ofString "/claim/cut.py") 1025] }) ::
 (nat_lit 626, o626 P) ::
 (nat_lit 632, { cls := Value.type "code", data := Data.fields #[Value.str (Str.ofString "law") 1027, Value.str (Str.ofString "law") 1028, Value.str (Str.ofString "/claim/cut.py") 1029, Value.int 436 0, Value.int 1 0, Value.int 0 0, Value.int 0 0, Value.int 3 0, Value.ref 627, Value.bool true, Value.int 181 0, Value.ref 628, Value.none, Value.ref 629, Value.ref 630, Value.ref 631, Value.int 1041 0, Value.int 436 0, Value.str (Str.ofString "/claim/cut.py") 1042] }) ::
 (nat_lit 633, o633 P) :: []
noncomputable def adrs : List Addr := [2, 3, 73, 74, 80, 81, 83, 84, 104, 105, 125, 126, 173, 174, 180, 181, 187, 188, 194, 195, 201, 202, 206, 207, 213, 214, 220, 221, 229, 235, 236, 242, 243, 249, 250, 254, 255, 261, 262, 264, 265, 298, 304, 305, 311, 312, 318, 319, 332, 333, 339, 340, 346, 347, 370, 371, 416, 417, 425, 431, 432, 496, 502, 503, 509, 510, 530, 531, 533, 534, 542, 543, 549, 550, 556, 557, 563, 564, 570, 571, 577, 578, 584, 585, 591, 592, 598, 599, 603, 604, 608, 609, 613, 614, 618, 619, 625, 626, 632, 633]
theorem adrs_ok : ∀ P, adrs = (K9 P).map (·.1) := fun _ => by kernel_rfl
noncomputable abbrev lz : List Str := [Str.ofString "Raised", Str.ofString "error", Str.ofString "SmallHost"]
section
variable {tb : String → Option Builtin} {p : Program} {w : World} {n₀ : Nat} {ann : Option Value} {env : Env} {q : Pos}
theorem piece_all {n N : Nat} {s s' r : Shared} {l : List Stmt} {c c' : Code} {pos p' : Pos} (h : segRun tb p w n₀ ann 1 n s (piecesOf l env c pos [topFrame q]) = some (.next, s', c', p'))
  (k : topRun tb p w n₀ ann N s' ⟨doneF .next, c', p', [topFrame q]⟩ = some r) : topRun tb p w n₀ ann (n + N) s (restOf l env c pos [topFrame q]) = some r := by
 obtain ⟨a, ha, hN⟩ := seg_top (res := id) (K' := fun f => match f with | .next => (execs [] env).wrap doneF (leaveH env) id id | f => doneF f) (H' := leaveH env) (B := [topFrame q]) rfl n s (piecesOf l env c pos [topFrame q])
  ⟨(execs l env).wrap (fun f => match f with | .next => (execs [] env).wrap doneF (leaveH env) id id | f => doneF f) (leaveH env) id id, c, pos, [topFrame q]⟩ _ _ _ _ ⟨rfl, rfl, .inl ⟨rfl, rfl, _, rfl, rfl⟩⟩ h
 obtain rfl : a = .next := ha
 have := hN N r k
 unfold restOf
 have e := execs_app_wrap (env := env) l [] doneF (leaveH env) id id
 rw [List.append_nil] at e
 rw [e]
 exact this
end
noncomputable def lookS {β : Type} (p : Program) (m kf : Nat) (an : Option Value) (s : Shared) (c : Code) (ps q : Pos) (w : World) (L : Shared → β) : Option β := (topRun treeTable p w m an kf s ⟨doneF .next, c, ps, [topFrame q]⟩).map L
noncomputable def packT (x : Flow × SharedT × Code × Pos) : Flow × List Obj × Nat × Life × Array GenState × Drawn × Nat × OsState × Code × Pos := (x.1, x.2.1.tree.list x.2.1.n, x.2.1.n, x.2.1.life, x.2.1.gens, x.2.1.drawn, x.2.1.toks, x.2.1.os, x.2.2.1, x.2.2.2)
theorem seg_lit {p : Program} {w : World} {an : Option Value} {m n N toks : Nat} {sT : SharedT} {t : Thread} {Fl : List Obj} {life : Life} {gens : Array GenState} {drawn : Drawn} {os : OsState} {c : Code} {q : Pos}
  (h : (segRunT treeTable p w m an 1 n sT t).map packT = some (.next, Fl, N, life, gens, drawn, toks, os, c, q)) : segRun treeTable p w m an 1 n sT.abs t = some (.next, ⟨⟨Fl.toArray, life⟩, gens, drawn, toks, os⟩, c, q) := by
 obtain ⟨⟨f, ⟨T, n', li, g, d, tk, o⟩, c', q'⟩, hr, e⟩ := Option.map_eq_some_iff.mp h
 have r := segRun_of hr
 simp only [packT, Prod.mk.injEq] at e
 obtain ⟨rfl, rfl, rfl, rfl, rfl, rfl, rfl, rfl, rfl, rfl⟩ := e
 exact r
theorem left_tree {p q : Program} {loose : List Str} {Xt : Shared → Bool} {α : Type} {Yf : Shared → α} {Ya : World → α} {N k0 kb k1 k2 kf m K : Nat} {p1 p2 : Pos} (s0 sa : World → Shared) (an : World → Option Value) (b : World → List Stmt) (env : World → Env) (c : World → Code) (ps pb qq : World → Pos) (sT sM sF : World → Shared)
  (h0 : ∀ w, fencedOpening treeTable p w N = some (s0 w))
  (h1 : ∀ w, ((s0 w).heap.isNs mainGlobals && (s0 w).gens.size == 0, (s0 w).heap.objs.size, (s0 w).heap.nsMap mainGlobals "__annotations__") = (true, m, an w))
  (h2 : ∀ w, topGo treeTable p w m (an w) k0 (s0 w) (topStub p) = some (sa w, ⟨denote treeTable (.body (b w) (env w)), c w, ps w, [topFrame (qq w)]⟩))
  (h3 : ∀ w, segRun treeTable p w m (an w) 1 kb (sa w) (blockOf (b w) (env w) (c w) (ps w) [topFrame (qq w)]) = some (.next, sT w, c w, pb w))
  (r1 : ∀ w, segRun treeTable p w m (an w) 1 k1 (sT w) (piecesOf ((b w).take K) (env w) (c w) (pb w) [topFrame (qq w)]) = some (.next, sM w, c w, p1))
  (r2 : ∀ w, segRun treeTable p w m (an w) 1 k2 (sM w) (piecesOf ((b w).drop K) (env w) (c w) p1 [topFrame (qq w)]) = some (.next, sF w, c w, p2))
  (h45 : ∀ w, lookS p m kf (an w) (sF w) (c w) p2 (qq w) w (fun s₁ => ((staticsOk (importedModules p.main.body) (s0 w).heap s₁.heap && namesBound p s₁.heap && gensDone s₁ && laidKept (s0 w).heap s₁.heap, Yf s₁), (openSeen q loose (importedModules p.main.body) Xt true s₁).1)) = some ((true, Ya w), (openGood q loose).1))
  (h6 : ∀ w, lookS p m kf (an w) (sF w) (c w) p2 (qq w) w (fun s₁ => (openSeen q loose (importedModules p.main.body) Xt true s₁).2) = some (openGood q loose).2)
  (le : Nat.ble (k0 + (kb + (k1 + (k2 + kf)))) N = true) : LeftO p q loose Xt Yf Ya N := fun w => by
 obtain ⟨z1, z2, z3⟩ : _ ∧ _ ∧ _ := by simpa only [Prod.mk.injEq] using h1 w
 have h45 := h45 w
 have h6 := h6 w
 unfold lookS at h45 h6
 obtain ⟨s₁, hk, h9⟩ := Option.map_eq_some_iff.mp h45
 rw [hk] at h6
 obtain ⟨h9, e3⟩ := Prod.mk.inj h9
 obtain ⟨e1, e2⟩ := Prod.mk.inj h9
 have e4 := Option.some.inj h6
 have r3 := piece_app (r1 w) (piece_all (r2 w) hk)
 rw [List.take_append_drop] at r3
 have r3 := go_top (h2 w) (piece_block (h3 w) r3)
 have r := topRun_mono (N - (k0 + (kb + (k1 + (k2 + kf))))) _ _ _ _ r3
 rw [show k0 + (kb + (k1 + (k2 + kf))) + (N - (k0 + (kb + (k1 + (k2 + kf))))) = N by have := Nat.le_of_ble_eq_true le; omega] at r
 unfold openEnds
 rw [h0 w]
 show (topFrom treeTable p w N (s0 w)).map _ = _
 unfold topFrom
 try dsimp only
 rw [z1, z2, z3]
 try dsimp only
 rw [r]
 try dsimp only [Option.bind]
 rw [e1]
 show some (_, Yf s₁) = _
 rw [e2]
 exact congrArg some (Prod.ext (Prod.ext e3 e4) rfl)
noncomputable abbrev prg : Program := PySem.Challenge.rw_np0139_01.row.prog
noncomputable def ls0 (w : World) : Shared := (fencedOpening treeTable prg w 8698).getD {}
noncomputable def lan (w : World) : Option Value := (ls0 w).heap.nsMap mainGlobals "__annotations__"
noncomputable def lpa (w : World) : Shared × Thread := (topGo treeTable prg w 11 (lan w) 12 (ls0 w) (topStub prg)).getD ({}, topStub prg)
noncomputable def lb (w : World) : List Stmt := match (lpa w).2.code with | .body b _ => b | _ => []
noncomputable def lenv (w : World) : Env := match (lpa w).2.code with | .body _ e => e | _ => default
noncomputable def lq (w : World) : Pos := match (lpa w).2.stack with | [.ret _ _ _ _ _ q _] => q | _ => default
noncomputable def lsb (w : World) : Option (Flow × Shared × Code × Pos) := segRun treeTable prg w 11 (lan w) 1 100 (lpa w).1 (blockOf (lb w) (lenv w) (lpa w).2.code (lpa w).2.pos [topFrame (lq w)])
noncomputable def lbs (w : World) : Shared := match lsb w with | some (_, s, _) => s | none => {}
noncomputable def lpb (w : World) : Pos := match lsb w with | some (_, _, _, p) => p | none => default
noncomputable def insAll : Nat → List Obj → BT → BT
 |_, [], t => t
 |n, o :: l, t => insAll (n + 1) l (t.ins n o)
noncomputable def lsT (w : World) : SharedT := ⟨insAll 0 (lbs w).heap.objs.toList .nil, 15, (lbs w).heap.life, (lbs w).gens, (lbs w).drawn, (lbs w).toks, (lbs w).os⟩
noncomputable def tU (l : List Value) : Obj := { cls := .type "tuple", data := .seq l.toArray }
noncomputable def tS' : Nat → List String → List Value
 |_, [] => []
 |k, s :: l => vS s k :: tS' (k + 1) l
noncomputable def tS (k : Nat) (l : List String) : Obj := tU (tS' k l)
noncomputable def fN (l : List Value) : Obj := { cls := .none, data := .fields l.toArray }
noncomputable def fE : Obj := fN []
noncomputable def fC (c : String) (l : List Value) : Obj := { cls := .type c, data := .fields l.toArray }
noncomputable def cO (n q : String) (t : Nat) (l : List Value) (e : Nat) : Obj := fC "code" (vS n t :: vS q (t + 1) :: vS "/claim/cut.py" (t + 2) :: (l ++ [vS "/claim/cut.py" e]))
noncomputable def cP (n q : String) (t : Nat) (l a f : Int) (r r2 r3 r4 r5 : Nat) (i e : Int) (k : Nat) : Obj := cO n q t [.int l 0, .int a 0, .int 0 0, .int 0 0, .int f 0, .ref r, .bool true, .int 181 0, .ref r2, .none, .ref r3, .ref r4, .ref r5, .int i 0, .int e 0] k
noncomputable def cQ (n q : String) (t : Nat) (l : Int) (r r2 : Nat) (i e : Int) (k : Nat) : Obj := cO n q t [.int l 0, .int 0 0, .int 0 0, .int 0 0, .int 0 0, .ref r, .bool false, .int 181 0, .ref r2, .none, .none, .none, .none, .int i 0, .int e 0] k
noncomputable def fT (l : List (Int × Int × Nat)) : Obj := fN (l.flatMap fun x => [.int x.1 0, .int x.2.1 0, .ref x.2.2])
noncomputable def bP : Obj := fC "builtin_function_or_method" [.builtin "type.__prepare__", .type "type"]
noncomputable def bS (a : Nat) : Obj := fC "builtin_function_or_method" [.builtin "object.__init_subclass__", .ref a]
noncomputable def su (a : Nat) : Obj := fC "super" [.ref a, .ref a, .ref a]
noncomputable def dO (P : Params) (l : List (String × Nat × Value)) (e : Nat) : Obj := { cls := .type "dict", data := .dict (l.map fun x => { hash := PyData.keyHash P (Str.ofString x.1), key := vS x.1 x.2.1, val := x.2.2 }).toArray e }
noncomputable def gO (n q : String) (p : List Stmt) : Obj := { cls := .none, data := .func { name := Str.ofString n, qualname := Str.ofString q, params := argsI p, body := .stmts (bodyI p), scope := scopeI p, globals := 0, closure := [], defaults := .none, kwdefaults := .none } }
noncomputable def pO (c : String) (l : List (Option Value)) : Obj := { cls := .type c, slots := l.toArray }
noncomputable def fr (c n : Nat) (m : Value) : Obj := pO "frame" [some (.ref c), some (.ref 3), some (.ref n), none, some m, none, some (.ref 0)]
noncomputable def kO (n : String) (b m : List Value) (ns : Nat) (sb : List Value) (l : List (Option Value)) : Obj := { cls := .type "type", data := .cls { name := Str.ofString n, bases := b, mro := m, ns := ns, qualname := Str.ofString n, subclasses := sb }, slots := l.toArray }
noncomputable def oth (P : Params) (i9 : Nat → Obj) : Frag := [
(0, i9 0),
(1, i9 1),
(4, i9 4),
(5, i9 5),
(6, i9 6),
(7, i9 7),
(8, i9 8),
(9, i9 9),
(10, i9 10),
(11, i9 11),
(12, fT [(1, 0, 20), (5, 0, 27), (10, 0, 47), (12, 0, 59), (14, 0, 71), (27, 0, 93), (34, 0, 115), (39, 0, 138), (41, 0, 145), (45, 0, 152), (52, 0, 159), (60, 0, 166), (75, 0, 173), (83, 0, 180), (88, 0, 187), (94, 0, 194), (98, 0, 201), (100, 0, 206), (109, 0, 213), (114, 0, 220), (119, 0, 227), (161, 0, 275), (171, 0, 296), (236, 0, 381), (239, 0, 388), (243, 0, 395), (248, 0, 402), (254, 0, 409), (258, 0, 416), (262, 0, 423), (326, 0, 542), (328, 0, 549), (330, 0, 556), (332, 0, 563), (349, 0, 570), (360, 0, 577), (370, 0, 584), (378, 0, 591), (380, 0, 598), (386, 0, 603), (400, 0, 608), (409, 0, 613), (421, 0, 618), (427, 0, 625), (436, 0, 632)]),
(13, i9 13),
(14, i9 14),
(16, fE),
(17, tS 190 ["k"]),
(19, gO "_wall" "_wall" (s1 0)),
(20, cP "_wall" "_wall" 187 1 1 3 15 16 17 18 19 191 1 192),
(21, fO "_wall" "_wall" (s1 0) .none (vS "__main__" 164) 20),
(22, tU [(.type "Exception")]),
(23, bP),
(24, dO P [("__module__", 203, (vS "tclcore.faults" 194)), ("__qualname__", 205, (vS "TclFault" 204)), ("__firstlineno__", 207, (.int 5 206)), ("__init__", 215, (.ref 35)), ("__static_attributes__", 217, (.ref 36))] 5),
(26, fT [(7, 4, 34)]),
(27, cQ "TclFault" "TclFault" 198 5 25 26 201 5 202),
(28, fr 27 24 (vS "tclcore.faults" 194)),
(30, fE),
(31, tS 211 ["self", "why"]),
(33, gO "__init__" "TclFault.__init__" (s2 2 0)),
(34, cP "__init__" "TclFault.__init__" 208 7 2 3 29 30 31 32 33 213 7 214),
(35, fO "__init__" "TclFault.__init__" (s2 2 0) .none (vS "tclcore.faults" 194) 34),
(36, tS 216 ["why"]),
(37, dO P [("__module__", 203, (vS "tclcore.faults" 194)), ("__firstlineno__", 207, (.int 5 206)), ("__init__", 215, (.ref 35)), ("__static_attributes__", 217, (.ref 36)), ("__weakref__", 219, (.ref 39)), ("__doc__", 220, .none)] 3),
(38, kO "TclFault" [(.type "Exception")] [(.ref 38), (.type "Exception"), (.type "BaseException"), (.type "object")] 37 [(.ref 51), (.ref 63)] [some (.ref 22), none, some (vS "TclFault" 196), some (vS "TclFault" 204), some (.builtin "Exception.__new__"), some (.bool true)]),
(39, fC "getset_descriptor" [(vS "__weakref__" 218), (.ref 38), (.builtin "ExceptionGroup.__weakref__"), .none]),
(40, su 38),
(41, bS 38),
(42, tU [(.ref 38)]),
(43, bP),
(44, dO P [("__module__", 232, (vS "tclcore.faults" 194)), ("__qualname__", 234, (vS "Misused" 233)), ("__firstlineno__", 236, (.int 10 235)), ("__static_attributes__", 237, (.ref 49))] 4),
(46, fE),
(47, cQ "Misused" "Misused" 227 10 45 46 230 10 231),
(48, fr 47 44 (vS "tclcore.faults" 194)),
(50, dO P [("__module__", 232, (vS "tclcore.faults" 194)), ("__firstlineno__", 236, (.int 10 235)), ("__static_attributes__", 237, (.ref 49)), ("__doc__", 238, .none)] 2),
(51, kO "Misused" [(.ref 38)] [(.ref 51), (.ref 38), (.type "Exception"), (.type "BaseException"), (.type "object")] 50 [] [some (.ref 42), none, some (vS "Misused" 225), some (vS "Misused" 233), some (.builtin "Exception.__new__"), some (.bool true)]),
(52, su 51),
(53, bS 51),
(54, tU [(.ref 38)]),
(55, bP),
(56, dO P [("__module__", 248, (vS "tclcore.faults" 194)), ("__qualname__", 250, (vS "OutOfFuel" 249)), ("__firstlineno__", 252, (.int 12 251)), ("__static_attributes__", 253, (.ref 61))] 4),
(58, fE),
(59, cQ "OutOfFuel" "OutOfFuel" 243 12 57 58 246 12 247),
(60, fr 59 56 (vS "tclcore.faults" 194)),
(62, dO P [("__module__", 248, (vS "tclcore.faults" 194)), ("__firstlineno__", 252, (.int 12 251)), ("__static_attributes__", 253, (.ref 61)), ("__doc__", 254, .none)] 2),
(63, kO "OutOfFuel" [(.ref 38)] [(.ref 63), (.ref 38), (.type "Exception"), (.type "BaseException"), (.type "object")] 62 [] [some (.ref 54), none, some (vS "OutOfFuel" 241), some (vS "OutOfFuel" 249), some (.builtin "Exception.__new__"), some (.bool true)]),
(64, su 63),
(65, bS 63),
(66, tU [(.type "Exception")]),
(67, bP),
(68, dO P [("__module__", 264, (vS "tclcore.faults" 194)), ("__qualname__", 266, (vS "Raised" 265)), ("__firstlineno__", 268, (.int 14 267)), ("__init__", 283, (.ref 81)), ("__static_attributes__", 293, (.ref 82))] 5),
(70, fT [(16, 4, 80)]),
(71, cQ "Raised" "Raised" 259 14 69 70 262 14 263),
(72, fr 71 68 (vS "tclcore.faults" 194)),
(76, fE),
(77, tS 275 ["self", "code", "value", "errorcode", "level", "ret"]),
(79, gO "__init__" "Raised.__init__" (s2 5 0)),
(82, tS 284 ["code", "errorcode", "extra", "info", "is_noted", "level", "line", "ret", "value"]),
(85, fC "getset_descriptor" [(vS "__weakref__" 294), (.ref 84), (.builtin "ExceptionGroup.__weakref__"), .none]),
(86, su 84),
(87, bS 84),
(89, bP),
(90, dO P [("__module__", 308, (vS "tclcore.faults" 194)), ("__qualname__", 310, (vS "Nest" 309)), ("__firstlineno__", 312, (.int 27 311)), ("__init__", 324, (.ref 102)), ("__static_attributes__", 329, (.ref 103))] 5),
(92, fT [(29, 4, 101)]),
(93, cQ "Nest" "Nest" 303 27 91 92 306 27 307),
(94, fr 93 90 (vS "tclcore.faults" 194)),
(95, tU [.none, (.bool false), (vS "" 313)]),
(97, fE),
(98, tS 317 ["self", "script", "back", "is_proc", "label"]),
(100, gO "__init__" "Nest.__init__" (s2 6 0)),
(101, cP "__init__" "Nest.__init__" 314 29 5 3 96 97 98 99 100 322 29 323),
(102, fO "__init__" "Nest.__init__" (s2 6 0) (.ref 95) (vS "tclcore.faults" 194) 101),
(103, tS 325 ["back", "is_proc", "label", "script"]),
(106, fC "getset_descriptor" [(vS "__dict__" 330), (.ref 105), (.builtin "function.__dict__"), (.builtin "function.__dict__#set")]),
(107, fC "getset_descriptor" [(vS "__weakref__" 332), (.ref 105), (.builtin "ExceptionGroup.__weakref__"), .none]),
(108, su 105),
(109, bS 105),
(111, bP),
(112, dO P [("__module__", 344, (vS "tclcore.faults" 194)), ("__qualname__", 346, (vS "Pause" 345)), ("__firstlineno__", 348, (.int 34 347)), ("__init__", 357, (.ref 123)), ("__static_attributes__", 360, (.ref 124))] 5),
(114, fT [(36, 4, 122)]),
(115, cQ "Pause" "Pause" 339 34 113 114 342 34 343),
(116, fr 115 112 (vS "tclcore.faults" 194)),
(118, fE),
(119, tS 352 ["self", "kind", "words"]),
(121, gO "__init__" "Pause.__init__" (s2 7 0)),
(122, cP "__init__" "Pause.__init__" 349 36 3 3 117 118 119 120 121 355 36 356),
(123, fO "__init__" "Pause.__init__" (s2 7 0) .none (vS "tclcore.faults" 194) 122),
(124, tS 358 ["kind", "words"]),
(127, fC "getset_descriptor" [(vS "__dict__" 361), (.ref 126), (.builtin "function.__dict__"), (.builtin "function.__dict__#set")]),
(128, fC "getset_descriptor" [(vS "__weakref__" 363), (.ref 126), (.builtin "ExceptionGroup.__weakref__"), .none]),
(129, su 126),
(130, bS 126),
(131, tS 368 ["NONE"]),
(132, tU [(.ref 131)]),
(134, fE),
(135, tS 372 ["text", "errorcode"]),
(137, gO "error" "error" (s1 8)),
(138, cP "error" "error" 369 39 2 3 133 134 135 136 137 374 39 375),
(139, fO "error" "error" (s1 8) (.ref 132) (vS "tclcore.faults" 194) 138),
(141, fE),
(142, tS 380 ["text", "most"]),
(144, gO "cut" "cut" (s1 9)),
(145, cP "cut" "cut" 377 41 2 3 140 141 142 143 144 382 41 383),
(146, fO "cut" "cut" (s1 9) .none (vS "tclcore.faults" 194) 145),
(148, fE),
(149, tS 388 ["raised", "text"]),
(151, gO "note_row" "note_row" (s1 10)),
(152, cP "note_row" "note_row" 385 45 2 3 147 148 149 150 151 390 45 391),
(153, fO "note_row" "note_row" (s1 10) .none (vS "tclcore.faults" 194) 152),
(155, fE),
(156, tS 396 ["raised"]),
(158, gO "end_return" "end_return" (s1 11)),
(159, cP "end_return" "end_return" 393 52 1 3 154 155 156 157 158 397 52 398),
(160, fO "end_return" "end_return" (s1 11) .none (vS "tclcore.faults" 194) 159),
(162, fE),
(163, tS 403 ["nest", "raised", "fault", "word"]),
(165, gO "end_proc" "end_proc" (s1 12)),
(166, cP "end_proc" "end_proc" 400 60 2 3 161 162 163 164 165 407 60 408),
(167, fO "end_proc" "end_proc" (s1 12) .none (vS "tclcore.faults" 194) 166),
(169, fE),
(170, tS 415 ["raised"]),
(172, gO "told" "told" (s1 14)),
(176, fE),
(177, tS 422 ["events", "host", "script", "raised"]),
(179, gO "run_event" "run_event" (s1 15)),
(183, fE),
(184, tS 432 ["events", "host", "last", "script"]),
(186, gO "run_idle" "run_idle" (s1 16)),
(190, fE),
(191, tS 442 ["events", "host", "script"]),
(193, gO "run_timer" "run_timer" (s1 17)),
(197, fE),
(198, tS 451 ["number"]),
(200, gO "name_of" "name_of" (s1 18)),
(204, fE),
(205, gO "all_events" "all_events" (s1 19)),
(209, fE),
(210, tS 464 ["events", "name", "row"]),
(212, gO "event_named" "event_named" (s1 20)),
(216, fE),
(217, tS 473 ["events", "script", "row"]),
(219, gO "event_of" "event_of" (s1 21)),
(223, bP),
(224, dO P [("__module__", 486, (vS "tclcore.events" 410)), ("__qualname__", 488, (vS "Events" 487)), ("__firstlineno__", 490, (.int 119 489)), ("__init__", 499, (.ref 236)), ("after", 510, (.ref 243)), ("when_idle", 518, (.ref 250)), ("cancel", 524, (.ref 255)), ("step", 533, (.ref 262)), ("__static_attributes__", 539, (.ref 263))] 9),
(226, fT [(121, 4, 235), (128, 4, 242), (137, 4, 249), (142, 4, 254), (150, 4, 261)]),
(227, cQ "Events" "Events" 481 119 225 226 484 119 485),
(228, fr 227 224 (vS "tclcore.events" 410)),
(231, fE),
(232, tS 495 ["self", "now"]),
(234, gO "__init__" "Events.__init__" (s2 22 0)),
(238, fE),
(239, tS 503 ["self", "ms", "script", "time", "at"]),
(241, gO "after" "Events.after" (s2 22 1)),
(245, fE),
(246, tS 514 ["self", "script"]),
(248, gO "when_idle" "Events.when_idle" (s2 22 2)),
(252, fE),
(253, gO "cancel" "Events.cancel" (s2 22 3)),
(257, fE),
(258, tS 528 ["self", "host", "is_waiting"]),
(260, gO "step" "Events.step" (s2 22 4)),
(263, tS 534 ["errors", "idle", "now", "number", "queue"]),
(266, fC "getset_descriptor" [(vS "__dict__" 540), (.ref 265), (.builtin "function.__dict__"), (.builtin "function.__dict__#set")]),
(267, fC "getset_descriptor" [(vS "__weakref__" 542), (.ref 265), (.builtin "ExceptionGroup.__weakref__"), .none]),
(268, su 265),
(269, bS 265),
(271, bP),
(272, dO P [("__module__", 556, (vS "tclcore.spaces" 547)), ("__qualname__", 558, (vS "Var" 557)), ("__firstlineno__", 560, (.int 161 559)), ("__init__", 567, (.ref 283)), ("__static_attributes__", 574, (.ref 284))] 5),
(274, fT [(163, 4, 282)]),
(275, cQ "Var" "Var" 551 161 273 274 554 161 555),
(276, fr 275 272 (vS "tclcore.spaces" 547)),
(278, fE),
(279, tS 564 ["self"]),
(281, gO "__init__" "Var.__init__" (s2 24 0)),
(282, cP "__init__" "Var.__init__" 561 163 1 3 277 278 279 280 281 565 163 566),
(283, fO "__init__" "Var.__init__" (s2 24 0) .none (vS "tclcore.spaces" 547) 282),
(284, tS 568 ["is_busy", "is_element", "kind", "traces", "value", "writes"]),
(285, dO P [("__module__", 556, (vS "tclcore.spaces" 547)), ("__firstlineno__", 560, (.int 161 559)), ("__init__", 567, (.ref 283)), ("__static_attributes__", 574, (.ref 284)), ("__dict__", 576, (.ref 287)), ("__weakref__", 578, (.ref 288)), ("__doc__", 579, .none)] 4),
(286, kO "Var" [(.type "object")] [(.ref 286), (.type "object")] 285 [] [none, none, some (vS "Var" 549), some (vS "Var" 557), some (.builtin "object.__new__"), some (.bool true)]),
(287, fC "getset_descriptor" [(vS "__dict__" 575), (.ref 286), (.builtin "function.__dict__"), (.builtin "function.__dict__#set")]),
(288, fC "getset_descriptor" [(vS "__weakref__" 577), (.ref 286), (.builtin "ExceptionGroup.__weakref__"), .none]),
(289, su 286),
(290, bS 286),
(292, bP),
(293, dO P [("__module__", 591, (vS "tclcore.host" 582)), ("__qualname__", 593, (vS "Host" 592)), ("__firstlineno__", 595, (.int 171 594)), ("__init__", 605, (.ref 305)), ("tool", 613, (.ref 312)), ("spend", 620, (.ref 319)), ("where", 627, (.ref 326)), ("run", 636, (.ref 333)), ("run_global", 644, (.ref 340)), ("call", 653, (.ref 347)), ("finish", 662, (.ref 354)), ("leave", 670, (.ref 361)), ("outcome", 678, (.ref 368)), ("__static_attributes__", 688, (.ref 369))] 14),
(295, fT [(173, 4, 304), (184, 4, 311), (189, 4, 318), (194, 4, 325), (197, 4, 332), (207, 4, 339), (210, 4, 346), (220, 4, 353), (230, 4, 360), (234, 4, 367)]),
(296, cQ "Host" "Host" 586 171 294 295 589 171 590),
(297, fr 296 293 (vS "tclcore.host" 582)),
(300, fE),
(301, tS 600 ["self", "limit", "fuel"]),
(303, gO "__init__" "Host.__init__" (s2 26 0)),
(307, fE),
(308, tS 609 ["self", "name"]),
(310, gO "tool" "Host.tool" (s2 26 1)),
(314, fE),
(315, tS 617 ["self"]),
(317, gO "spend" "Host.spend" (s2 26 2)),
(321, fE),
(322, tS 624 ["self"]),
(324, gO "where" "Host.where" (s2 26 3)),
(325, cP "where" "Host.where" 621 194 1 3 320 321 322 323 324 625 194 626),
(326, fO "where" "Host.where" (s2 26 3) .none (vS "tclcore.host" 582) 325),
(328, fE),
(329, tS 631 ["self", "script", "runner"]),
(331, gO "run" "Host.run" (s2 26 4)),
(335, fE),
(336, tS 640 ["self", "script"]),
(338, gO "run_global" "Host.run_global" (s2 26 5)),
(342, fE),
(343, tS 648 ["self", "words", "got"]),
(345, gO "call" "Host.call" (s2 26 6)),
(349, fE),
(350, tS 657 ["self", "nest", "raised"]),
(352, gO "finish" "Host.finish" (s2 26 7)),
(353, cP "finish" "Host.finish" 654 220 2 3 348 349 350 351 352 660 220 661),
(354, fO "finish" "Host.finish" (s2 26 7) .none (vS "tclcore.host" 582) 353),
(356, fE),
(357, tS 666 ["self", "nest"]),
(359, gO "leave" "Host.leave" (s2 26 8)),
(360, cP "leave" "Host.leave" 663 230 2 3 355 356 357 358 359 668 230 669),
(361, fO "leave" "Host.leave" (s2 26 8) .none (vS "tclcore.host" 582) 360),
(363, fE),
(364, tS 674 ["self", "script"]),
(366, gO "outcome" "Host.outcome" (s2 26 9)),
(367, cP "outcome" "Host.outcome" 671 234 2 3 362 363 364 365 366 676 234 677),
(368, fO "outcome" "Host.outcome" (s2 26 9) .none (vS "tclcore.host" 582) 367),
(369, tS 679 ["coroutine", "depth", "epoch", "frame", "fuel", "inline", "limit", "spent", "tools"]),
(372, fC "getset_descriptor" [(vS "__dict__" 689), (.ref 371), (.builtin "function.__dict__"), (.builtin "function.__dict__#set")]),
(373, fC "getset_descriptor" [(vS "__weakref__" 691), (.ref 371), (.builtin "ExceptionGroup.__weakref__"), .none]),
(374, su 371),
(375, bS 371),
(377, fE),
(378, tS 699 ["verb", "name", "why"]),
(380, gO "no_variable" "no_variable" (s1 27)),
(381, cP "no_variable" "no_variable" 696 236 2 3 376 377 378 379 380 702 236 703),
(382, fO "no_variable" "no_variable" (s1 27) .none (vS "tclcore.host" 582) 381),
(384, fE),
(385, tS 708 ["book", "name"]),
(387, gO "var_in" "var_in" (s1 28)),
(388, cP "var_in" "var_in" 705 239 2 3 383 384 385 386 387 710 239 711),
(389, fO "var_in" "var_in" (s1 28) .none (vS "tclcore.host" 582) 388),
(391, fE),
(392, tS 716 ["var", "kind", "value"]),
(394, gO "put_value" "put_value" (s1 29)),
(395, cP "put_value" "put_value" 713 243 3 3 390 391 392 393 394 719 243 720),
(396, fO "put_value" "put_value" (s1 29) .none (vS "tclcore.host" 582) 395),
(398, fE),
(399, tS 725 ["book", "name", "found", "whole"]),
(401, gO "elements_in" "elements_in" (s1 30)),
(402, cP "elements_in" "elements_in" 722 248 2 3 397 398 399 400 401 729 248 730),
(403, fO "elements_in" "elements_in" (s1 30) .none (vS "tclcore.host" 582) 402),
(405, fE),
(406, tS 735 ["entry"]),
(408, gO "pair_of" "pair_of" (s1 31)),
(409, cP "pair_of" "pair_of" 732 254 1 3 404 405 406 407 408 736 254 737),
(410, fO "pair_of" "pair_of" (s1 31) .none (vS "tclcore.host" 582) 409),
(412, fE),
(413, tS 742 ["host", "words", "action", "data"]),
(415, gO "act" "act" (s1 32)),
(418, tU [(.ref 371)]),
(419, bP),
(420, dO P [("__module__", 756, (vS "tclcore.host" 582)), ("__qualname__", 758, (vS "SmallHost" 757)), ("__firstlineno__", 760, (.int 262 759)), ("__init__", 770, (.ref 432)), ("has", 778, (.ref 439)), ("place", 786, (.ref 446)), ("read_var", 795, (.ref 453)), ("write_var", 805, (.ref 460)), ("read", 813, (.ref 467)), ("write", 822, (.ref 474)), ("drop", 830, (.ref 481)), ("stamp", 838, (.ref 488)), ("array", 848, (.ref 495)), ("put", 858, (.ref 503)), ("remove", 866, (.ref 510)), ("add", 877, (.ref 517)), ("is_first", 885, (.ref 524)), ("begin", 895, (.ref 531)), ("__static_attributes__", 899, (.ref 532))] 19),
(422, fT [(264, 4, 431), (270, 4, 438), (273, 4, 445), (276, 4, 452), (281, 4, 459), (284, 4, 466), (287, 4, 473), (290, 4, 480), (293, 4, 487), (296, 4, 494), (300, 4, 502), (304, 4, 509), (310, 4, 516), (316, 4, 523), (319, 4, 530)]),
(423, cQ "SmallHost" "SmallHost" 751 262 421 422 754 262 755),
(424, fr 423 420 (vS "tclcore.host" 582)),
(427, fE),
(428, tS 765 ["self", "limit", "fuel"]),
(430, gO "__init__" "SmallHost.__init__" (s2 33 0)),
(434, fE),
(435, tS 774 ["self", "name"]),
(437, gO "has" "SmallHost.has" (s2 33 1)),
(438, cP "has" "SmallHost.has" 771 270 2 3 433 434 435 436 437 776 270 777),
(439, fO "has" "SmallHost.has" (s2 33 1) .none (vS "tclcore.host" 582) 438),
(441, fE),
(442, tS 782 ["self", "name"]),
(444, gO "place" "SmallHost.place" (s2 33 2)),
(445, cP "place" "SmallHost.place" 779 273 2 3 440 441 442 443 444 784 273 785),
(446, fO "place" "SmallHost.place" (s2 33 2) .none (vS "tclcore.host" 582) 445),
(448, fE),
(449, tS 790 ["self", "var", "name"]),
(451, gO "read_var" "SmallHost.read_var" (s2 33 3)),
(452, cP "read_var" "SmallHost.read_var" 787 276 3 3 447 448 449 450 451 793 276 794),
(453, fO "read_var" "SmallHost.read_var" (s2 33 3) .none (vS "tclcore.host" 582) 452),
(455, fE),
(456, tS 799 ["self", "var", "name", "value"]),
(458, gO "write_var" "SmallHost.write_var" (s2 33 4)),
(459, cP "write_var" "SmallHost.write_var" 796 281 4 3 454 455 456 457 458 803 281 804),
(460, fO "write_var" "SmallHost.write_var" (s2 33 4) .none (vS "tclcore.host" 582) 459),
(462, fE),
(463, tS 809 ["self", "name"]),
(465, gO "read" "SmallHost.read" (s2 33 5)),
(466, cP "read" "SmallHost.read" 806 284 2 3 461 462 463 464 465 811 284 812),
(467, fO "read" "SmallHost.read" (s2 33 5) .none (vS "tclcore.host" 582) 466),
(469, fE),
(470, tS 817 ["self", "name", "value"]),
(472, gO "write" "SmallHost.write" (s2 33 6)),
(473, cP "write" "SmallHost.write" 814 287 3 3 468 469 470 471 472 820 287 821),
(474, fO "write" "SmallHost.write" (s2 33 6) .none (vS "tclcore.host" 582) 473),
(476, fE),
(477, tS 826 ["self", "name"]),
(479, gO "drop" "SmallHost.drop" (s2 33 7)),
(480, cP "drop" "SmallHost.drop" 823 290 2 3 475 476 477 478 479 828 290 829),
(481, fO "drop" "SmallHost.drop" (s2 33 7) .none (vS "tclcore.host" 582) 480),
(483, fE),
(484, tS 834 ["self", "name"]),
(486, gO "stamp" "SmallHost.stamp" (s2 33 8)),
(487, cP "stamp" "SmallHost.stamp" 831 293 2 3 482 483 484 485 486 836 293 837),
(488, fO "stamp" "SmallHost.stamp" (s2 33 8) .none (vS "tclcore.host" 582) 487),
(490, fE),
(491, tS 842 ["self", "name", "is_made", "found"]),
(493, gO "array" "SmallHost.array" (s2 33 9)),
(494, cP "array" "SmallHost.array" 839 296 3 3 489 490 491 492 493 846 296 847),
(495, fO "array" "SmallHost.array" (s2 33 9) .none (vS "tclcore.host" 582) 494),
(498, fE),
(499, tS 852 ["self", "name", "action", "data"]),
(501, gO "put" "SmallHost.put" (s2 33 10)),
(505, fE),
(506, tS 862 ["self", "name"]),
(508, gO "remove" "SmallHost.remove" (s2 33 11)),
(512, fE),
(513, tS 870 ["self", "group", "name", "action", "data"]),
(515, gO "add" "SmallHost.add" (s2 33 12)),
(516, cP "add" "SmallHost.add" 867 310 2 3 511 512 513 514 515 875 310 876),
(517, fO "add" "SmallHost.add" (s2 33 12) .none (vS "tclcore.host" 582) 516),
(519, fE),
(520, tS 881 ["self", "name"]),
(522, gO "is_first" "SmallHost.is_first" (s2 33 13)),
(523, cP "is_first" "SmallHost.is_first" 878 316 2 3 518 519 520 521 522 883 316 884),
(524, fO "is_first" "SmallHost.is_first" (s2 33 13) .none (vS "tclcore.host" 582) 523),
(526, fE),
(527, tS 889 ["self", "words", "action", "data"]),
(529, gO "begin" "SmallHost.begin" (s2 33 14)),
(532, tS 896 ["commands", "firsts", "vars"]),
(535, su 534),
(536, bS 534),
(538, fE),
(541, gO "_law_names" "_law_names" (s1 35)),
(545, fE),
(546, tS 914 ["number"]),
(548, gO "_law_wait" "_law_wait" (s1 36)),
(552, fE),
(553, tS 921 ["number"]),
(555, gO "_law_what" "_law_what" (s1 37)),
(559, fE),
(560, tS 928 ["script", "turn", "number", "later", "acts", "rest", "extra"]),
(562, gO "_law_acts" "_law_acts" (s1 38)),
(566, fE),
(567, tS 941 ["script", "place", "number", "kind", "rest"]),
(569, gO "_law_deed" "_law_deed" (s1 39)),
(573, fE),
(574, tS 952 ["events", "log", "act_now", "kind", "wait", "name"]),
(576, gO "_law_done" "_law_done" (s1 40)),
(580, fE),
(581, tS 964 ["host", "words", "data", "events", "log", "acts", "act_now"]),
(583, gO "_law_command" "_law_command" (s1 41)),
(587, fE),
(588, tS 977 ["host", "script"]),
(590, gO "_law_run" "_law_run" (s1 42)),
(594, fE),
(595, tS 985 ["code", "value"]),
(597, gO "_law_told" "_law_told" (s1 43)),
(601, fE),
(602, gO "_law_own" "_law_own" (s1 44)),
(606, fE),
(607, gO "_law_own_run" "_law_own_run" (s1 45)),
(611, fE),
(612, gO "_law_own_step" "_law_own_step" (s1 46)),
(616, fE),
(617, gO "_law_same" "_law_same" (s1 47)),
(621, fE),
(622, tS 1017 ["host", "events", "log", "book", "rows", "act_now", "due"]),
(624, gO "_law_turn" "_law_turn" (s1 48)),
(628, fE),
(629, tS 1030 ["script", "first", "events", "log", "book", "rows", "host", "turn", "name", "place", "act_now"]),
(631, gO "law" "law" (s1 49))]
noncomputable def hdA (a : Nat) : Frag → Option Obj
 |[] => none
 |(b, o) :: _ => match Nat.beq a b with
  |true => some o
  |false => none
noncomputable def mrg (d : Obj) : Nat → Nat → Frag → Frag → List Obj
 |0, _, _, _ => []
 |n + 1, a, k, r => match hdA a k with
  |some o => o :: mrg d n (a + 1) k.tail r
  |none => match hdA a r with
   |some o => o :: mrg d n (a + 1) k r.tail
   |none => d :: mrg d n (a + 1) k r
noncomputable def cutD (m e : Nat) (x : Value) : Obj → Obj
 |⟨c, d, .dict es _, s⟩ => match es.toList with
  |y :: l => ⟨c, d, .dict ({ y with val := x } :: l.take m).toArray e, s⟩
  |[] => ⟨c, d, .dict es e, s⟩
 |o => o
noncomputable def cutF (m : Nat) : Obj → Obj
 |⟨c, d, .fields vs, s⟩ => ⟨c, d, .fields (vs.toList.take m).toArray, s⟩
 |o => o
noncomputable def onA (a : Nat) (f : Obj → Obj) : Frag → Frag
 |[] => []
 |(b, o) :: l => match Nat.beq a b with
  |true => (b, f o) :: l
  |false => (b, o) :: onA a f l
noncomputable def ini (w : World) (i : Nat) : Obj := (lbs w).heap.objs.toList.getD i default
noncomputable def F9 (w : World) : List Obj := mrg (tU []) 634 0 (K9 w.params) (oth w.params (ini w))
noncomputable def M9 (w : World) : List Obj := mrg (tU []) 270 0 (onA 3 (cutD 29 30 (vS "tclcore.events" 410)) (K9 w.params)) (onA 12 (cutF 63) (oth w.params (ini w)))
noncomputable def sMT (w : World) : SharedT := ⟨insAll 0 (M9 w) .nil, 270, (lsT w).life, #[], (lsT w).drawn, 547, (lsT w).os⟩
noncomputable def sM (w : World) : Shared := ⟨⟨(M9 w).toArray, (lsT w).life⟩, #[], (lsT w).drawn, 547, (lsT w).os⟩
noncomputable def sF (w : World) : Shared := ⟨⟨(F9 w).toArray, (lsT w).life⟩, #[], (lsT w).drawn, 1044, (lsT w).os⟩
theorem left0 : ∀ w, fencedOpening treeTable prg w 8698 = some (ls0 w) := by intro w; kernel_rfl
theorem left1 : ∀ w, ((ls0 w).heap.isNs mainGlobals && (ls0 w).gens.size == 0, (ls0 w).heap.objs.size, (ls0 w).heap.nsMap mainGlobals "__annotations__") = (true, 11, lan w) := by intro w; kernel_rfl
theorem left2 : ∀ w, topGo treeTable prg w 11 (lan w) 12 (ls0 w) (topStub prg) = some ((lpa w).1, ⟨denote treeTable (.body (lb w) (lenv w)), (lpa w).2.code, (lpa w).2.pos, [topFrame (lq w)]⟩) := by intro w; kernel_rfl
theorem left3 : ∀ w, segRun treeTable prg w 11 (lan w) 1 100 (lpa w).1 (blockOf (lb w) (lenv w) (lpa w).2.code (lpa w).2.pos [topFrame (lq w)]) = some (.next, (lsT w).abs, (lpa w).2.code, lpb w) := by intro w; kernel_rfl
theorem absM : ∀ w, (insAll 0 (M9 w) .nil).list 270 = M9 w := by intro w; kernel_rfl
theorem abs_lit {T : BT} {n toks : Nat} {life : Life} {g : Array GenState} {d : Drawn} {os : OsState} {Fl : List Obj} (h : T.list n = Fl) : (SharedT.mk T n life g d toks os).abs = ⟨⟨Fl.toArray, life⟩, g, d, toks, os⟩ := by
 subst h
 rfl
theorem absM2 (w : World) : (sMT w).abs = sM w := by
 unfold sMT sM
 exact abs_lit (absM w)
theorem run1 : ∀ w, (segRunT treeTable prg w 11 (lan w) 1 3000 (lsT w) (piecesOf ((lb w).take 23) (lenv w) (lpa w).2.code (lpb w) [topFrame (lq w)])).map packT = some (.next, M9 w, 270, (lsT w).life, #[], (lsT w).drawn, 547, (lsT w).os, (lpa w).2.code, ⟨119, 0, 159, 20⟩) := by intro w; kernel_rfl
theorem run2 : ∀ w, (segRunT treeTable prg w 11 (lan w) 1 3000 (sMT w) (piecesOf ((lb w).drop 23) (lenv w) (lpa w).2.code ⟨119, 0, 159, 20⟩ [topFrame (lq w)])).map packT = some (.next, F9 w, 634, (lsT w).life, #[], (lsT w).drawn, 1044, (lsT w).os, (lpa w).2.code, ⟨436, 0, 460, 83⟩) := by intro w; kernel_rfl
theorem left6 : ∀ w, lookS prg 11 100 (lan w) (sF w) (lpa w).2.code ⟨436, 0, 460, 83⟩ (lq w) w (fun s₁ => (openSeen view9 lz (importedModules prg.main.body) (fun s => xlAt view9 [] s && recOk PySem.Challenge.rw_np0139_01.row.toRowW.records s) true s₁).2) = some (openGood view9 lz).2 := by intro w; kernel_rfl
theorem left45 : ∀ w, lookS prg 11 100 (lan w) (sF w) (lpa w).2.code ⟨436, 0, 460, 83⟩ (lq w) w (fun s₁ => ((staticsOk (importedModules prg.main.body) (ls0 w).heap s₁.heap && namesBound prg s₁.heap && gensDone s₁ && laidKept (ls0 w).heap s₁.heap, Hook.obs (kHook K9 adrs adrs_ok) s₁), (openSeen view9 lz (importedModules prg.main.body) (fun s => xlAt view9 [] s && recOk PySem.Challenge.rw_np0139_01.row.toRowW.records s) true s₁).1)) = some ((true, Hook.val (kHook K9 adrs adrs_ok) w), (openGood view9 lz).1) := by intro w; kernel_rfl
theorem runM : ∀ w, segRun treeTable prg w 11 (lan w) 1 3000 (lsT w).abs (piecesOf ((lb w).take 23) (lenv w) (lpa w).2.code (lpb w) [topFrame (lq w)]) = some (.next, sM w, (lpa w).2.code, ⟨119, 0, 159, 20⟩) := fun w => by
 unfold sM
 exact seg_lit (run1 w)
theorem runF : ∀ w, segRun treeTable prg w 11 (lan w) 1 3000 (sM w) (piecesOf ((lb w).drop 23) (lenv w) (lpa w).2.code ⟨119, 0, 159, 20⟩ [topFrame (lq w)]) = some (.next, sF w, (lpa w).2.code, ⟨436, 0, 460, 83⟩) := fun w => by
 unfold sF
 rw [← absM2 w]
 exact seg_lit (run2 w)
theorem left9 : LeftO prg view9 lz (fun s => xlAt view9 [] s && recOk PySem.Challenge.rw_np0139_01.row.toRowW.records s) (Hook.obs (kHook K9 adrs adrs_ok)) (Hook.val (kHook K9 adrs adrs_ok)) 8698 :=
 left_tree (m := 11) (k0 := 12) (kb := 100) (k1 := 3000) (k2 := 3000) (kf := 100) (K := 23) ls0 (fun w => (lpa w).1) lan lb lenv (fun w => (lpa w).2.code) (fun w => (lpa w).2.pos) lpb lq (fun w => (lsT w).abs) sM sF left0 left1 left2 left3 runM runF left45 left6 rfl
theorem said1 : OpenLaw.wellSaid PySem.Challenge.rw_np0139_01 = true := by kernel_rfl
theorem chains1 : (chainsOk view9 && opensWell PySem.Challenge.rw_np0139_01.row.prog && (frees PySem.Challenge.rw_np0139_01.row.toRowW && PySem.Challenge.rw_np0139_01.row.within.isEmpty)) = true := by kernel_rfl
theorem wit1 : PySem.Challenge.rw_np0139_01.row.toRowW.promised := by w_witness2
theorem gl1 : namesOk view9 (looseW view9 lz) (namesW view9 lz) = true := by decide +kernel
theorem gl2 : importsNone view9 = true := by decide +kernel
theorem fill_all : (K9, PySem.Challenge.rw_np0139_01) = (K9, PySem.Challenge.rw_np0139_01) := by k_fill; rfl
theorem wr_z {p : Prop} (h : p) (_ : ∀ q : Prop, (Nat → False) → q) : p := h
noncomputable section
@[irreducible] def eps {α : Type} (i : Nonempty α) (P : α → Prop) : α := @Classical.epsilon α i P
section
variable {α β γ δ ε : Type}
theorem eps_not {i : Nonempty α} {P : α → Prop} (h : P (eps i fun x => ¬ P x)) : ∀ x, P x := by
 intro x
 refine Classical.byContradiction fun hx => ?_
 unfold eps at h
 exact absurd h (@Classical.epsilon_spec α (fun x => ¬ P x) ⟨x, hx⟩)
noncomputable abbrev epa (i : Nonempty α) (P : α → Prop) : α := eps i fun x => ¬ P x
theorem all_eps [i : Nonempty α] {P : α → Prop} (h : let x := epa i P; P x) : ∀ x, P x := eps_not (i := i) h
theorem all_eps2 [i : Nonempty (α × β)] {P : α → β → Prop} (h : let x := (epa i fun t => P t.1 t.2).1; let y := (epa i fun t => P t.1 t.2).2; P x y) : ∀ x y, P x y := fun x y => eps_not (i := i) (P := fun t => P t.1 t.2) h (x, y)
theorem all_eps3 [i : Nonempty (α × β × γ)] {P : α → β → γ → Prop} (h : let x := (epa i fun t => P t.1 t.2.1 t.2.2).1; let y := (epa i fun t => P t.1 t.2.1 t.2.2).2.1; let z := (epa i fun t => P t.1 t.2.1 t.2.2).2.2; P x y z) : ∀ x y z, P x y z := fun x y z => eps_not (i := i) (P := fun t => P t.1 t.2.1 t.2.2) h (x, y, z)
theorem all_eps4 [i : Nonempty (α × β × γ × δ)] {P : α → β → γ → δ → Prop} (h : let x := (epa i fun t => P t.1 t.2.1 t.2.2.1 t.2.2.2).1; let y := (epa i fun t => P t.1 t.2.1 t.2.2.1 t.2.2.2).2.1; let z := (epa i fun t => P t.1 t.2.1 t.2.2.1 t.2.2.2).2.2.1; let w := (epa i fun t => P t.1 t.2.1 t.2.2.1 t.2.2.2).2.2.2; P x y z w) : ∀ x y z w, P x y z w := fun x y z w => eps_not (i := i) (P := fun t => P t.1 t.2.1 t.2.2.1 t.2.2.2) h (x, y, z, w)
theorem ex_spec {i : Nonempty α} {P : α → Prop} (h : ∃ x, P x) : P (eps i P) := by
 unfold eps
 exact @Classical.epsilon_spec_aux α i P h
variable {G : Prop}
theorem ex_arr1 [i : Nonempty α] {P : α → Prop} (k : let x := eps i P; P x → G) : (∃ x, P x) → G := fun h => k (ex_spec h)
theorem ex_arr2 [i : Nonempty (α × β)] {P : α → β → Prop} (k : let x := (eps i fun t => P t.1 t.2).1; let y := (eps i fun t => P t.1 t.2).2; P x y → G) : (∃ x y, P x y) → G := fun ⟨x, y, h⟩ => k (ex_spec (i := i) (P := fun t => P t.1 t.2) ⟨(x, y), h⟩)
theorem ex_arr3 [i : Nonempty (α × β × γ)] {P : α → β → γ → Prop} (k : let x := (eps i fun t => P t.1 t.2.1 t.2.2).1; let y := (eps i fun t => P t.1 t.2.1 t.2.2).2.1; let z := (eps i fun t => P t.1 t.2.1 t.2.2).2.2; P x y z → G) : (∃ x y z, P x y z) → G := fun ⟨x, y, z, h⟩ => k (ex_spec (i := i) (P := fun t => P t.1 t.2.1 t.2.2) ⟨(x, y, z), h⟩)
theorem ex_arr4 [i : Nonempty (α × β × γ × δ)] {P : α → β → γ → δ → Prop} (k : let x := (eps i fun t => P t.1 t.2.1 t.2.2.1 t.2.2.2).1; let y := (eps i fun t => P t.1 t.2.1 t.2.2.1 t.2.2.2).2.1; let z := (eps i fun t => P t.1 t.2.1 t.2.2.1 t.2.2.2).2.2.1; let w := (eps i fun t => P t.1 t.2.1 t.2.2.1 t.2.2.2).2.2.2; P x y z w → G) : (∃ x y z w, P x y z w) → G := fun ⟨x, y, z, w, h⟩ => k (ex_spec (i := i) (P := fun t => P t.1 t.2.1 t.2.2.1 t.2.2.2) ⟨(x, y, z, w), h⟩)
theorem and_arr {a b : Prop} (k : a → b → G) : a ∧ b → G := fun h => k h.1 h.2
theorem all_unit {P : Unit → Prop} (h : P ()) : ∀ u, P u := fun _ => h
theorem all_pair {P : α × β → Prop} (h : ∀ x y, P (x, y)) : ∀ t, P t := fun t => h t.1 t.2
theorem arr {a : Prop} (k : a → G) (h : a) : G := k h
theorem po_eq {M : Model} {A : Around} {env : Env} {E E' : Value → Shared → Prop} (e : E = E') (h : PassesOwn M A env E') : PassesOwn M A env E := e ▸ h
theorem poa_eq {M : Model} {A A' : Around} {env : Env} {E E' : Value → Shared → Prop} (e : E = E') (h : PassesOwnAt M A' A env E') : PassesOwnAt M A' A env E := e ▸ h
theorem unw {T : Type} {M : Model} {A : Around} {t : Sem T} {q Q : T → Shared → Prop} {E : Value → Shared → Prop} {s : Shared} (e : q = Q) (h : wpAny M A t Q E s) : wpAny M A t q E s := e ▸ h
theorem une {T : Type} {M : Model} {A : Around} {t : Sem T} {q : T → Shared → Prop} {E E' : Value → Shared → Prop} {s : Shared} (e : E = E') (h : wpAny M A t q E' s) : wpAny M A t q E s := e ▸ h
theorem fold_q {T : Type} {M : Model} {A : Around} {t : Sem T} {Q : T → Shared → Prop} {E : Value → Shared → Prop} {s : Shared} (h : let q := Q; wpAny M A t q E s) : wpAny M A t Q E s := h
theorem fold_e {T : Type} {M : Model} {A : Around} {t : Sem T} {Q : T → Shared → Prop} {E : Value → Shared → Prop} {s : Shared} (h : let e := E; wpAny M A t Q e s) : wpAny M A t Q E s := h
theorem unq {q Q : α → β → Prop} (e : q = Q) {a : α} {s : β} (h : Q a s) : q a s := e ▸ h
end
theorem list_or {α : Type} (l : List α) : l = [] ∨ ∃ a t, l = a :: t := by cases l <;> simp
theorem list_or2 {α β : Type} (l : List (α × β)) : l = [] ∨ ∃ a b t, l = (a, b) :: t := by
 cases l with
 |nil => exact .inl rfl
 |cons a t => exact .inr ⟨a.1, a.2, t, rfl⟩
theorem list_or3 {α β γ : Type} (l : List (α × β × γ)) : l = [] ∨ ∃ a b c t, l = (a, b, c) :: t := by
 cases l with
 |nil => exact .inl rfl
 |cons a t => exact .inr ⟨a.1, a.2.1, a.2.2, t, rfl⟩
theorem roomj {d a b N : Nat} (h : d + b < N) (e : Nat.ble a b = true) : d + a < N := Nat.lt_of_le_of_lt (Nat.add_le_add_left (Nat.le_of_ble_eq_true e) d) h
theorem roomk {d k a b N : Nat} (h : d + b < N) (e : Nat.ble (k + a) b = true) : d + k + a < N := Nat.add_assoc d k a ▸ roomj h e
theorem ite_ff {P R : Prop} (h : R) : if false = true then P else R := by rw [if_neg Bool.false_ne_true]; exact h
theorem ite_tt {P R : Prop} (h : P) : if true = true then P else R := by rw [if_pos rfl]; exact h
noncomputable def SeqQ (M : Model) (A : Around) (rest : List Stmt) (env : Env) (Q : Flow → Shared → Prop) (E : Value → Shared → Prop) (f : Flow) (s : Shared) : Prop := match f with | .next => wpAny M A (execs rest env) Q E s | f => Q f s
section
variable {M : Model} {A : Around} {st : Stmt} {rest : List Stmt} {env : Env} {Q : Flow → Shared → Prop} {E : Value → Shared → Prop} {s : Shared} {v : Value}
theorem SeqQ.cons (h : wpAny M A (exec st env) (SeqQ M A rest env Q E) E s) : wpAny M A (execs (st :: rest) env) Q E s := wpAny_execs_cons (wpAny_mono h (fun f _ q => by cases f <;> exact q) fun _ _ e => e)
theorem SeqQ.next (h : wpAny M A (execs rest env) Q E s) : SeqQ M A rest env Q E .next s := h
theorem SeqQ.ret (h : Q (.ret v) s) : SeqQ M A rest env Q E (.ret v) s := h
theorem SeqQ.brk (h : Q .brk s) : SeqQ M A rest env Q E .brk s := h
theorem SeqQ.cont (h : Q .cont s) : SeqQ M A rest env Q E .cont s := h
end
noncomputable abbrev lse : List Str := looseW view9 [Str.ofString "Raised", Str.ofString "error", Str.ofString "SmallHost"]

noncomputable abbrev Led := List (Addr × Obj)

noncomputable abbrev Cx : Type := Nat × Nat × Option (List Code) × Str × Scope × Addr × Value × List (Str × Addr) × List Env × Around × Heap × Heap × Addr × (Str → Option Value) × Shared × (Value → Shared → Prop) × (Value → Shared → Prop)
noncomputable def cur {α β : Type} (P : α → β → Prop) : α × β → Prop := fun p => P p.1 p.2
noncomputable def cx0 : Cx := (0, 0, none, default, default, 0, default, [], [], { handled := none, depth := 0, frames := none, guards := none, units := 0 }, default, default, 0, fun _ => none, {}, fun _ _ => True, fun _ _ => True)
noncomputable def w0 : World := ⟨fun _ _ => 0, { strHash := fun _ => 0, shareClass := fun _ => 0, mergeTok := fun t => t, idOf := fun _ => 0, idOfShared := fun _ _ => 0, followText := fun _ => true, idOfImm := fun _ => 0 }⟩
theorem drinker {α : Type} (S : α → Prop) (x0 : α) : ∃ x, S x → ∀ y, S y := by
 by_cases h : ∃ x, ¬ S x
 ·obtain ⟨x, hx⟩ := h
  exact ⟨x, fun q => absurd q hx⟩
 ·exact ⟨x0, fun _ y => Classical.byContradiction fun q => h ⟨y, q⟩⟩
noncomputable def Does.at (prog : Program) (w : World) (mean : ExcName → Option Value) (mg mb : Str → Option Value) (f : Addr) (vs : List Value) (dd uu : Nat) (news : Led) (P : Value → Led → Prop)
  (dp un : Nat) (gd : Option (List Code)) (cn : Str) (cs : Scope) (a : Addr) (ccd : Value) (cl : List (Str × Addr)) (outer : List Env) (A₀ : Around) (base h₀ : Heap) (L : Addr) (m : Str → Option Value) (s : Shared) (Q E : Value → Shared → Prop) : Prop :=
  Below A₀ base outer h₀ → Fr h₀ L s.heap m → (K9 w.params).In h₀ → Top view9 lse mean mg mb h₀ → News h₀ L s.heap news → cs.kind = .function → dp + dd < recursionLimit → un + uu < cLine →
  (∀ r h' tk' news', Fr h₀ L h' m → News h₀ L h' news' → P r news' → Q r { s with heap := h', toks := tk' }) →
  wpAny (model prog w) (ktrTop dp un gd cn cs L a ccd cl outer) (call (.ref f) vs) Q E s
noncomputable def Does (prog : Program) (w : World) (mean : ExcName → Option Value) (mg mb : Str → Option Value) (f : Addr) (vs : List Value) (dd uu : Nat) (news : Led) (P : Value → Led → Prop) : Prop :=
 ∀ (dp un : Nat) (gd : Option (List Code)) (cn : Str) (cs : Scope) (a : Addr) (ccd : Value) (cl : List (Str × Addr)) (outer : List Env) (A₀ : Around) (base h₀ : Heap) (L : Addr) (m : Str → Option Value) (s : Shared) (Q E : Value → Shared → Prop),
  Does.at prog w mean mg mb f vs dd uu news P dp un gd cn cs a ccd cl outer A₀ base h₀ L m s Q E

section
variable {prog : Program} {w : World} {mean : ExcName → Option Value} {mg mb : Str → Option Value} {f : Addr} {vs : List Value} {dd uu : Nat} {news : Led} {P : Value → Led → Prop}
theorem Does.use {dp un : Nat} {gd : Option (List Code)} {cn : Str} {cs : Scope} {a : Addr} {ccd : Value} {cl : List (Str × Addr)} {outer : List Env} {A₀ : Around} {base h₀ : Heap} {L : Addr} {m : Str → Option Value} {s : Shared} {Q E : Value → Shared → Prop}
  (B : Below A₀ base outer h₀) (F : Fr h₀ L s.heap m) (X : (K9 w.params).In h₀) (T : Top view9 lse mean mg mb h₀) (N : News h₀ L s.heap news) (hk : cs.kind = .function)
  (c : Does prog w mean mg mb f vs dd uu news P) (h1 : dp + dd < recursionLimit) (h2 : un + uu < cLine)
  (k : ∀ r h' tk' news', Fr h₀ L h' m → News h₀ L h' news' → P r news' → Q r { s with heap := h', toks := tk' }) :
  wpAny (model prog w) (ktrTop dp un gd cn cs L a ccd cl outer) (call (.ref f) vs) Q E s := c _ _ _ _ _ _ _ _ _ _ _ _ _ _ _ _ _ B F X T N hk h1 h2 k
end

inductive Take (d : Addr) (o : Obj) : Led → Led → Prop
 |head {r} : Take d o ((d, o) :: r) r
 |tail {p r r'} : Take d o r r' → Take d o (p :: r) (p :: r')
theorem Take.mem {d : Addr} {o : Obj} {l l' : Led} (t : Take d o l l') : (d, o) ∈ l ∧ ∀ p ∈ l', p ∈ l := by
 induction t with
 |head => exact ⟨.head _, fun p hp => .tail _ hp⟩
 |tail _ ih => exact ⟨.tail _ ih.1, fun q hq => by
   rcases List.mem_cons.mp hq with rfl | hq
   ·exact .head _
   ·exact .tail _ (ih.2 q hq)⟩

inductive Tl (r : Led) : Led → (Led → Led) → Prop
 |nil : Tl r r (fun t => t)
 |cons {p l f} : Tl r l f → Tl r (p :: l) (fun t => p :: f t)
theorem Tl.mem {r l : Led} {f : Led → Led} (t : Tl r l f) {add : Led} : ∀ p ∈ f (add ++ r), p ∈ add ∨ p ∈ l := by
 induction t with
 |nil => exact fun p hp => List.mem_append.mp hp
 |cons _ ih =>
  intro q hq
  rcases List.mem_cons.mp hq with rfl | hq
  ·exact .inr (.head _)
  ·exact (ih q hq).imp id (.tail _)
theorem Tl.sub {r l : Led} {f : Led → Led} (t : Tl r l f) : ∀ p ∈ r, p ∈ l := by
 induction t with
 |nil => exact fun p hp => hp
 |cons _ ih => exact fun q hq => .tail _ (ih q hq)


section
variable {h₀ h : Heap} {L : Addr} {news l1 l2 l3 l4 l5 l6 : Led} {d1 d2 d3 d4 d5 d6 : Addr} {o1 o2 o3 o4 o5 o6 : Obj}
theorem take1 (N : News h₀ L h news) (t1 : Take d1 o1 news l1) : News h₀ L h ((d1, o1) :: l1) := fun p hp => by
 rcases List.mem_cons.mp hp with rfl | hp
 ·exact N _ t1.mem.1
 ·exact N _ (t1.mem.2 p hp)
theorem news_cons {p : Addr × Obj} (N : News h₀ L h (p :: l1)) (N2 : News h₀ L h l2) : News h₀ L h (p :: l2) := fun q hq => by
 rcases List.mem_cons.mp hq with rfl | hq
 ·exact N _ (.head _)
 ·exact N2 _ hq
theorem news_tail {p : Addr × Obj} (N : News h₀ L h (p :: l1)) : News h₀ L h l1 := fun q hq => N q (.tail _ hq)
theorem take2 (N : News h₀ L h news) (t1 : Take d1 o1 news l1) (t2 : Take d2 o2 l1 l2) : News h₀ L h ((d1, o1) :: (d2, o2) :: l2) := by
 have N1 := take1 N t1
 exact news_cons N1 (take1 (news_tail N1) t2)
theorem take3 (N : News h₀ L h news) (t1 : Take d1 o1 news l1) (t2 : Take d2 o2 l1 l2) (t3 : Take d3 o3 l2 l3) : News h₀ L h ((d1, o1) :: (d2, o2) :: (d3, o3) :: l3) := by
 have N1 := take1 N t1
 exact news_cons N1 (take2 (news_tail N1) t2 t3)
theorem take4 (N : News h₀ L h news) (t1 : Take d1 o1 news l1) (t2 : Take d2 o2 l1 l2) (t3 : Take d3 o3 l2 l3) (t4 : Take d4 o4 l3 l4) : News h₀ L h ((d1, o1) :: (d2, o2) :: (d3, o3) :: (d4, o4) :: l4) := by
 have N1 := take1 N t1
 exact news_cons N1 (take3 (news_tail N1) t2 t3 t4)
theorem take5 (N : News h₀ L h news) (t1 : Take d1 o1 news l1) (t2 : Take d2 o2 l1 l2) (t3 : Take d3 o3 l2 l3) (t4 : Take d4 o4 l3 l4) (t5 : Take d5 o5 l4 l5) :
  News h₀ L h ((d1, o1) :: (d2, o2) :: (d3, o3) :: (d4, o4) :: (d5, o5) :: l5) := by
 have N1 := take1 N t1
 exact news_cons N1 (take4 (news_tail N1) t2 t3 t4 t5)
theorem take6 (N : News h₀ L h news) (t1 : Take d1 o1 news l1) (t2 : Take d2 o2 l1 l2) (t3 : Take d3 o3 l2 l3) (t4 : Take d4 o4 l3 l4) (t5 : Take d5 o5 l4 l5) (t6 : Take d6 o6 l5 l6) :
  News h₀ L h ((d1, o1) :: (d2, o2) :: (d3, o3) :: (d4, o4) :: (d5, o5) :: (d6, o6) :: l6) := by
 have N1 := take1 N t1
 exact news_cons N1 (take5 (news_tail N1) t2 t3 t4 t5 t6)

theorem news_ne (N : News h₀ L h news) (h1 : (d1, o1) ∈ news) (h2 : (d2, o2) ∈ news) (ho : o1.cls ≠ o2.cls) : d1 ≠ d2 := by
 rintro rfl
 have a := (N _ h1).1
 have b := (N _ h2).1
 dsimp only at a b
 rw [a] at b
 cases b
 exact ho rfl
end

noncomputable def Over (B : Addr) (add : Led) : Prop := ∀ p ∈ add, @LE.le Nat _ B p.1

noncomputable def aft (n : Int) : Str := Str.ofString "after#" ++ Str.ofString (toString n)

noncomputable abbrev evD (P : Params) (k : Nat → Tok) (now : Int) (tn : Tok) (q i er : Addr) (num : Int) (tm : Tok) : List DictEntry :=
 [⟨PyData.keyHash P "now", .str "now" (k 0), .int now tn⟩, ⟨PyData.keyHash P "queue", .str "queue" (k 1), .ref q⟩, ⟨PyData.keyHash P "idle", .str "idle" (k 2), .ref i⟩,
  ⟨PyData.keyHash P "errors", .str "errors" (k 3), .ref er⟩, ⟨PyData.keyHash P "number", .str "number" (k 4), .int num tm⟩]

noncomputable abbrev tupO (vs : List Value) (n : Nat := 0) : Obj := { cls := .type "tuple", data := .seq vs.toArray n }
noncomputable def tD (t : Int × Int × Str) : Dat := .tuple [.int t.1, .int t.2.1, .str t.2.2]
noncomputable def iD (t : Int × Str) : Dat := .tuple [.int t.1, .str t.2]

theorem fin_news {h₀ h : Heap} {L : Addr} {r rest : Led} {f : Led → Led} (M add : Led) (W : Tl r rest f) (N : News h₀ L h (add ++ (M ++ rest))) : News h₀ L h (M ++ f (add ++ r)) := fun p hp => by
 rcases List.mem_append.mp hp with hp | hp
 ·exact N p (List.mem_append.mpr (.inr (List.mem_append.mpr (.inl hp))))
 ·rcases W.mem p hp with hp | hp
  ·exact N p (List.mem_append.mpr (.inl hp))
  ·exact N p (List.mem_append.mpr (.inr (List.mem_append.mpr (.inr hp))))
theorem over_one {B a : Addr} {o : Obj} (h : @LE.le Nat _ B a) : Over B [(a, o)] := fun p hp => by
 rw [List.mem_singleton.mp hp]; exact h
theorem over_cons {B a : Addr} {o : Obj} {l : Led} (h : @LE.le Nat _ B a) (hl : Over B l) : Over B ((a, o) :: l) := fun p hp => by
 rcases List.mem_cons.mp hp with rfl | hp
 ·exact h
 ·exact hl p hp
theorem over_nil {B : Addr} : Over B [] := fun _ hp => nomatch hp
theorem over_app {B : Addr} {l l' : Led} (h : Over B l) (h' : Over B l') : Over B (l ++ l') := fun p hp => (List.mem_append.mp hp).elim (h p) (h' p)
theorem over_le {B B' : Addr} {l : Led} (h : Over B l) (hb : B' ≤ B) : Over B' l := fun p hp => Nat.le_trans hb (h p hp)
theorem allLt_all {d : Addr} : ∀ {l : Led}, AllLt d l → ∀ p ∈ l, p.1 < d
 |[], _, _, hp => nomatch hp
 |q :: l, h, p, hp => by
  rcases List.mem_cons.mp hp with rfl | hp
  ·exact h.1
  ·exact allLt_all h.2 p hp

section
variable {prog : Program} {w : World} {A : Around} {E : Value → Shared → Prop} {s : Shared} {h₀ : Heap} {L : Addr} {m : Str → Option Value} {news : Led}
theorem my_len {l : Addr} {vs : List Value} {n : Nat} {Q : Value → Shared → Prop} (N : News h₀ L s.heap news) (hm : (l, listOf vs.toArray n) ∈ news) (hz : vs.length < 16000000) (h : Q (.int vs.length (s.toks + 1)) { s with toks := s.toks + 1 + 1 }) :
  wpAny (model prog w) A (call (.builtin "len") [.ref l]) Q E s :=
 len_list (News.isList N hm) (by rw [List.size_toArray]; (first | lia | omega)) (by rw [List.size_toArray]; exact h)

noncomputable def WhileOne (h₀ : Heap) (L : Addr) (x : Str) (m : Str → Option Value) (news : Led) (s : Shared) (P : Int → Prop) (meas : Int → Nat) (c : Int) (f : Flow) (s₃ : Shared) : Prop :=
 f = .next ∧ ∃ h' tk m' c' t', s₃ = { s with heap := h', toks := tk } ∧ Fr h₀ L h' m' ∧ News h₀ L h' news ∧ m' x = some (.int c' t') ∧ (∀ y, y ≠ x → m' y = m y) ∧ P c' ∧ meas c' < meas c
theorem WhileOne.intro {x : Str} {P : Int → Prop} {meas : Int → Nat} {c c' : Int} {t' : Tok} {h' : Heap} {tk : Nat} {m' : Str → Option Value} (F : Fr h₀ L h' m') (N : News h₀ L h' news) (hx : m' x = some (.int c' t')) (hm : ∀ y, y ≠ x → m' y = m y) (hp : P c') (hc : meas c' < meas c) :
  WhileOne h₀ L x m news s P meas c .next { s with heap := h', toks := tk } := ⟨rfl, h', tk, m', c', t', rfl, F, N, hx, hm, hp, hc⟩
theorem While_one {env : Env} {test : Expr} {body : List Stmt} {pos : Pos} {Q : Flow → Shared → Prop} {x : Str} {c₀ : Int} {t₀ : Tok} (P : Int → Prop) (meas : Int → Nat)
  (F : Fr h₀ L s.heap m) (N : News h₀ L s.heap news) (hx : m x = some (.int c₀ t₀)) (h0 : P c₀)
  (turn : ∀ c t h₁ tk₁, P c → Fr h₀ L h₁ (fun y => if y = x then some (.int c t) else m y) → News h₀ L h₁ news →
   wpAny (model prog w) A (isTrue test env (eval test env)) (fun b s₂ =>
    if b = true then wpAny (model prog w) A (execs body env) (WhileOne h₀ L x m news s P meas c) E s₂ else Q .next s₂) E { s with heap := h₁, toks := tk₁ })
  (hE : PassesOwn (model prog w) A env E := by passes_own) :
  wpAny (model prog w) A (exec (.While test body [] pos) env) Q E s := by
 have norm : ∀ {m' : Str → Option Value} {c : Int} {t : Tok}, m' x = some (.int c t) → (∀ y, y ≠ x → m' y = m y) → m' = fun y => if y = x then some (.int c t) else m y := by
  intro m' c t h1 h2
  funext y
  by_cases hy : y = x
  ·subst hy; simp [h1]
  ·simp only [if_neg hy]; exact h2 y hy
 refine While_inv (fun n m₁ news₁ => news₁ = news ∧ ∃ c t, meas c = n ∧ m₁ = (fun y => if y = x then some (.int c t) else m y) ∧ P c) (n₀ := meas c₀) F N ⟨rfl, c₀, t₀, rfl, norm hx fun _ _ => rfl, h0⟩ ?_ hE
 rintro n m₁ news₁ h₁ tk₁ F₁ N₁ ⟨rfl, c, t, rfl, rfl, hp⟩
 refine wpAny_mono (turn c t h₁ tk₁ hp F₁ N₁) (fun b s₂ hb => ?_) fun _ _ e => e
 cases b with
 |false => simpa using hb
 |true =>
  simp only [if_true] at hb ⊢
  refine wpAny_mono hb (fun f s₃ hf => ?_) fun _ _ e => e
  obtain ⟨rfl, h', tk, m', c', t', rfl, F', N', hx', hm', hp', hc'⟩ := hf
  exact ⟨rfl, h', tk, m', _, meas c', rfl, F', N', hc', rfl, c', t', rfl, norm hx' hm', hp'⟩
end
noncomputable def Stop (P : Prop) : Prop := P
theorem Stop.out {P : Prop} (h : Stop P) : P := h
theorem Stop.mk {P : Prop} (h : P) : Stop P := h

section
variable {r : Led} {v : Value} {vs : List Value} {d : Dat} {ds : List Dat}
theorem tup_inv (h : DatIn r v (.tuple ds)) : ∃ z vs n, v = .ref z ∧ (z, tupO vs n) ∈ r ∧ DatAll r vs ds := by
 cases h with
 |tuple hm r1 => exact ⟨_, _, _, rfl, hm, r1⟩
theorem cons_inv (h : DatAll r vs (d :: ds)) : ∃ v vs', vs = v :: vs' ∧ DatIn r v d ∧ DatAll r vs' ds := by
 cases h with
 |cons h1 h2 => exact ⟨_, _, rfl, h1, h2⟩
theorem nil_inv (h : DatAll r vs []) : vs = [] := by cases h; rfl
theorem int_inv {n : Int} (h : DatIn r v (.int n)) : ∃ t, v = .int n t := by
 cases h with
 |int _ t => exact ⟨t, rfl⟩
theorem str_inv {n : Str} (h : DatIn r v (.str n)) : ∃ t, v = .str n t := by
 cases h with
 |str _ t => exact ⟨t, rfl⟩
theorem tup2_inv {a b : Dat} (h : DatIn r v (.tuple [a, b])) : ∃ z n x y, v = .ref z ∧ (z, tupO [x, y] n) ∈ r ∧ DatIn r x a ∧ DatIn r y b := by
 obtain ⟨z, vs, n, hv, hm, h⟩ := tup_inv h
 obtain ⟨x, vs, rfl, h1, h⟩ := cons_inv h
 obtain ⟨y, vs, rfl, h2, h⟩ := cons_inv h
 exact ⟨z, n, x, y, hv, nil_inv h ▸ hm, h1, h2⟩
theorem tup3_inv {a b c : Dat} (h : DatIn r v (.tuple [a, b, c])) : ∃ z n x y w, v = .ref z ∧ (z, tupO [x, y, w] n) ∈ r ∧ DatIn r x a ∧ DatIn r y b ∧ DatIn r w c := by
 obtain ⟨z, vs, n, hv, hm, h⟩ := tup_inv h
 obtain ⟨x, vs, rfl, h1, h⟩ := cons_inv h
 obtain ⟨y, vs, rfl, h2, h⟩ := cons_inv h
 obtain ⟨w, vs, rfl, h3, h⟩ := cons_inv h
 exact ⟨z, n, x, y, w, hv, nil_inv h ▸ hm, h1, h2, h3⟩
theorem ist_inv {a b : Int} {c : Str} (h : DatIn r v (.tuple [.int a, .int b, .str c])) : ∃ z n t1 t2 t3, v = .ref z ∧ (z, tupO [.int a t1, .int b t2, .str c t3] n) ∈ r := by
 obtain ⟨z, n, x, y, w, hv, hm, h1, h2, h3⟩ := tup3_inv h
 obtain ⟨t1, rfl⟩ := int_inv h1
 obtain ⟨t2, rfl⟩ := int_inv h2
 obtain ⟨t3, rfl⟩ := str_inv h3
 exact ⟨z, n, t1, t2, t3, hv, hm⟩
end
theorem tD_inv {r : Led} {v : Value} {t : Int × Int × Str} (h : DatIn r v (tD t)) : ∃ z n t1 t2 t3, v = .ref z ∧ (z, tupO [.int t.1 t1, .int t.2.1 t2, .str t.2.2 t3] n) ∈ r := ist_inv h
theorem iD_inv {r : Led} {v : Value} {t : Int × Str} (h : DatIn r v (iD t)) : ∃ z n t1 t2, v = .ref z ∧ (z, tupO [.int t.1 t1, .str t.2 t2] n) ∈ r := by
 obtain ⟨z, n, x, y, hv, hm, h1, h2⟩ := tup2_inv h
 obtain ⟨t1, rfl⟩ := int_inv h1
 obtain ⟨t2, rfl⟩ := str_inv h2
 exact ⟨z, n, t1, t2, hv, hm⟩
theorem dat_row {α : Type} {f : α → Dat} {r : Led} {ds : List α} {vs : List Value} {i : Nat} {v : Value} (D : DatAll r vs (ds.map f)) (h : vs[i]? = some v) : ∃ a, ds[i]? = some a ∧ DatIn r v (f a) := by
 obtain ⟨hi, e⟩ := List.getElem?_eq_some_iff.mp h
 have hi' : i < ds.length := by rw [D.length, List.length_map] at hi; exact hi
 obtain ⟨v', hv', hd⟩ := D.get (k := i) (by rw [List.length_map]; exact hi')
 rw [h] at hv'
 cases hv'
 rw [List.getElem_map] at hd
 exact ⟨_, List.getElem?_eq_getElem hi', hd⟩
section
variable {prog : Program} {w : World} {A : Around} {E : Value → Shared → Prop} {s : Shared} {h₀ : Heap} {L : Addr} {news r : Led}
theorem my_itemD {l : Addr} {vs : List Value} {ds : List Dat} {n : Nat} {k : Int} {u : Tok} {value slice : PySem.Expr} {Q : Value → Shared → Prop} (N : News h₀ L s.heap news) (hm : (l, listOf vs.toArray n) ∈ news) (D : DatAll r vs ds)
  (h0 : 0 ≤ k) (hk : k.toNat < ds.length) (hz : ds.length < 16000000) (h : ∀ v, DatIn r v ds[k.toNat] → Q v s)
  (hs : subscripted slice false (.ref l) (.int k u) = operate [.ref l, .int k u] (getItem (.ref l) (.int k u)) := by with_unfolding_all rfl) :
  wpAny (model prog w) A (subscriptTail value slice (.ref l) (.int k u)) Q E s := by
 obtain ⟨v, hv, hd⟩ := D.get hk
 have hl := News.isList N hm
 exact tail_any hl.typeIs slot_list_getitem.lookup (wpAny_getItem_list hl h0 (by (first | lia | omega)) (by simpa using hv) (h v hd)) hs
theorem my_itemT {l : Addr} {vs : List Value} {ds : List (Int × Int × Str)} {n : Nat} {k : Int} {u : Tok} {value slice : PySem.Expr} {Q : Value → Shared → Prop} (N : News h₀ L s.heap news) (hm : (l, listOf vs.toArray n) ∈ news) (D : DatAll r vs (ds.map tD))
  {ka kb : Int} {kx : Str} (h0 : 0 ≤ k) (hk : ds[k.toNat]? = some (ka, kb, kx)) (hz : ds.length < 16000000) (h : ∀ z c t1 t2 t3, (z, tupO [.int ka t1, .int kb t2, .str kx t3] c) ∈ r → Q (.ref z) s)
  (hs : subscripted slice false (.ref l) (.int k u) = operate [.ref l, .int k u] (getItem (.ref l) (.int k u)) := by with_unfolding_all rfl) :
  wpAny (model prog w) A (subscriptTail value slice (.ref l) (.int k u)) Q E s := by
 obtain ⟨hk, ek⟩ := List.getElem?_eq_some_iff.mp hk
 refine my_itemD N hm D h0 (by rw [List.length_map]; exact hk) (by rw [List.length_map]; exact hz) (fun v hv => ?_) hs
 rw [List.getElem_map, ek] at hv
 obtain ⟨z, c, t1, t2, t3, rfl, hz⟩ := tD_inv hv
 exact h z c t1 t2 t3 hz
theorem my_itemI {l : Addr} {vs : List Value} {ds : List (Int × Str)} {n : Nat} {k : Int} {u : Tok} {value slice : PySem.Expr} {Q : Value → Shared → Prop} (N : News h₀ L s.heap news) (hm : (l, listOf vs.toArray n) ∈ news) (D : DatAll r vs (ds.map iD))
  {ka : Int} {kx : Str} (h0 : 0 ≤ k) (hk : ds[k.toNat]? = some (ka, kx)) (hz : ds.length < 16000000) (h : ∀ z c t1 t2, (z, tupO [.int ka t1, .str kx t2] c) ∈ r → Q (.ref z) s)
  (hs : subscripted slice false (.ref l) (.int k u) = operate [.ref l, .int k u] (getItem (.ref l) (.int k u)) := by with_unfolding_all rfl) :
  wpAny (model prog w) A (subscriptTail value slice (.ref l) (.int k u)) Q E s := by
 obtain ⟨hk, ek⟩ := List.getElem?_eq_some_iff.mp hk
 refine my_itemD N hm D h0 (by rw [List.length_map]; exact hk) (by rw [List.length_map]; exact hz) (fun v hv => ?_) hs
 rw [List.getElem_map, ek] at hv
 obtain ⟨z, c, t1, t2, rfl, hz⟩ := iD_inv hv
 exact h z c t1 t2 hz
end
section
variable {prog : Program} {w : World} {A : Around} {E : Value → Shared → Prop} {s : Shared} {h₀ : Heap} {L : Addr} {m : Str → Option Value} {news news' r rest : Led}
theorem my_insert {D : Addr} {vs : List Value} {n : Nat} {x : Int} {u : Tok} {y : Value} {Q : Value → Shared → Prop} (F : Fr h₀ L s.heap m) (N : News h₀ L s.heap news) (U : Upd D (listOf vs.toArray n) (listOf (vs.take x.toNat ++ y :: vs.drop x.toNat).toArray (n + 1)) news news')
  (h0 : 0 ≤ x) (h1 : x ≤ vs.length) (hz : vs.length < 16000000) (h : ∀ h', Fr h₀ L h' m → News h₀ L h' news' → Q .none { s with heap := h' }) :
  wpAny (model prog w) A (call (.builtin "list.insert") [.ref D, .int x u, y]) Q E s := by
 refine kl_insert F N ?_ ?_ U ?_ h
 ·simp only [Builtin.List.listFitsIndex, Bool.and_eq_true, decide_eq_true_eq]
  (first | lia | omega)
 ·unfold kl_ins
  have e : (if x < 0 then (x + (vs.toArray.toList.length : Int)).toNat else min x.toNat vs.toArray.toList.length) = x.toNat := by
   rw [if_neg (by (first | lia | omega))]
   have : vs.toArray.toList.length = vs.length := rfl
   (first | lia | omega)
  rw [e]
 ·show vs.length ≤ _
  rw [sizeLine_eq]; (first | lia | omega)
theorem my_itemT' {l : Addr} {vs : List Value} {ds : List (Int × Int × Str)} {n : Nat} {k : Int} {u : Tok} {value slice : PySem.Expr} {Q : Value → Shared → Prop} (N : News h₀ L s.heap news) (hm : (l, listOf vs.toArray n) ∈ news) (D : DatAll r vs (ds.map tD)) (hr : ∀ p ∈ r, p ∈ rest)
  {ka kb : Int} {kx : Str} (h0 : 0 ≤ k) (hk : ds[k.toNat]? = some (ka, kb, kx)) (hz : ds.length < 16000000) (h : ∀ z c t1 t2 t3, (z, tupO [.int ka t1, .int kb t2, .str kx t3] c) ∈ rest → Q (.ref z) s)
  (hs : subscripted slice false (.ref l) (.int k u) = operate [.ref l, .int k u] (getItem (.ref l) (.int k u)) := by with_unfolding_all rfl) :
  wpAny (model prog w) A (subscriptTail value slice (.ref l) (.int k u)) Q E s := my_itemT N hm D h0 hk hz (fun z c t1 t2 t3 hz => h z c t1 t2 t3 (hr _ hz)) hs
theorem my_itemI' {l : Addr} {vs : List Value} {ds : List (Int × Str)} {n : Nat} {k : Int} {u : Tok} {value slice : PySem.Expr} {Q : Value → Shared → Prop} (N : News h₀ L s.heap news) (hm : (l, listOf vs.toArray n) ∈ news) (D : DatAll r vs (ds.map iD)) (hr : ∀ p ∈ r, p ∈ rest)
  {ka : Int} {kx : Str} (h0 : 0 ≤ k) (hk : ds[k.toNat]? = some (ka, kx)) (hz : ds.length < 16000000) (h : ∀ z c t1 t2, (z, tupO [.int ka t1, .str kx t2] c) ∈ rest → Q (.ref z) s)
  (hs : subscripted slice false (.ref l) (.int k u) = operate [.ref l, .int k u] (getItem (.ref l) (.int k u)) := by with_unfolding_all rfl) :
  wpAny (model prog w) A (subscriptTail value slice (.ref l) (.int k u)) Q E s := my_itemI N hm D h0 hk hz (fun z c t1 t2 hz => h z c t1 t2 (hr _ hz)) hs
end
theorem dat_insert {r add : Led} {vs : List Value} {ds : List (Int × Int × Str)} {c : Nat} {z : Addr} {a b : Int} {x : Str} {t1 t2 t3 : Tok} {n : Nat} (D : DatAll r vs (ds.map tD)) (hz : (z, tupO [.int a t1, .int b t2, .str x t3] n) ∈ add) :
  DatAll (add ++ r) (vs.take c ++ .ref z :: vs.drop c) ((ds.take c ++ (a, b, x) :: ds.drop c).map tD) := by
 have cut : ∀ {vs : List Value} {es : List Dat} (c : Nat), DatAll r vs es → DatAll r (vs.take c) (es.take c) ∧ DatAll r (vs.drop c) (es.drop c) := by
  intro vs
  induction vs with
  |nil => intro es c h; cases h; simp only [List.take_nil, List.drop_nil]; exact ⟨.nil, .nil⟩
  |cons v vs ih =>
   intro es c h
   cases h with
   |cons h1 h2 =>
    cases c with
    |zero => exact ⟨.nil, .cons h1 h2⟩
    |succ c =>
     obtain ⟨a, b⟩ := ih c h2
     exact ⟨.cons h1 a, b⟩
 obtain ⟨h1, h2⟩ := cut c D
 have up : ∀ p ∈ r, p ∈ add ++ r := fun p hp => List.mem_append_right _ hp
 rw [List.map_append, List.map_cons, ← List.map_take, ← List.map_drop] at *
 exact (h1.mono up).append (.cons (.tuple (List.mem_append_left _ hz) (.cons (.int _ _) (.cons (.int _ _) (.cons (.str _ _) .nil)))) (h2.mono up))
theorem lt_get {news : Led} {a d : Addr} {o : Obj} (h : ∀ p ∈ news, @LT.lt Nat _ p.1 d) (hm : (a, o) ∈ news) : @LT.lt Nat _ a d := h _ hm
theorem lt_ne {news : Led} {a d : Addr} {o : Obj} (h : ∀ p ∈ news, @LT.lt Nat _ p.1 d) (hm : (a, o) ∈ news) : a ≠ d := Nat.ne_of_lt (h _ hm)
theorem lt_ne' {news : Led} {a d : Addr} {o : Obj} (h : ∀ p ∈ news, @LT.lt Nat _ p.1 d) (hm : (a, o) ∈ news) : d ≠ a := Nat.ne_of_gt (h _ hm)
theorem lt_all {news : Led} {d : Addr} (h : ∀ p ∈ news, @LT.lt Nat _ p.1 d) : ∀ p ∈ news, p.1 ≠ d := fun p hp => Nat.ne_of_lt (h p hp)
theorem lt_mem {news : Led} {q : Addr × Obj} {d : Addr} (h : ∀ p ∈ news, @LT.lt Nat _ p.1 d) (hm : q ∈ news) : @LT.lt Nat _ q.1 d := h _ hm
noncomputable abbrev LtAll (d : Addr) (l : Led) : Prop := ∀ p ∈ l, @LT.lt Nat _ p.1 d
theorem lt_off {news l : Led} {d : Addr} (h : LtAll d news) (s : ∀ p ∈ l, p ∈ news) : ∀ p ∈ l, p.1 ≠ d := fun p hp => Nat.ne_of_lt (h p (s p hp))
theorem lt_sub {news l : Led} {d : Addr} (h : LtAll d news) (s : ∀ p ∈ l, p ∈ news) : ∀ p ∈ l, @LT.lt Nat _ p.1 d := fun p hp => h p (s p hp)
theorem lt_off1 {news l : Led} {d : Addr} (h : LtAll d news) (s : ∀ p ∈ l, p ∈ news) : ∀ p ∈ l, p.1 ≠ d + 1 := fun p hp => Nat.ne_of_lt (Nat.lt_succ_of_lt (h p (s p hp)))
theorem lt_off2 {news l : Led} {d : Addr} (h : LtAll d news) (s : ∀ p ∈ l, p ∈ news) : ∀ p ∈ l, p.1 ≠ d + 2 := fun p hp => Nat.ne_of_lt (Nat.lt_succ_of_lt (Nat.lt_succ_of_lt (h p (s p hp))))
theorem lt_ne1 {news : Led} {a d : Addr} {o : Obj} (h : LtAll d news) (hm : (a, o) ∈ news) : @Ne Nat a (d + 1) := Nat.ne_of_lt (Nat.lt_succ_of_lt (h _ hm))
theorem lt_ne2 {news : Led} {a d : Addr} {o : Obj} (h : LtAll d news) (hm : (a, o) ∈ news) : @Ne Nat a (d + 2) := Nat.ne_of_lt (Nat.lt_succ_of_lt (Nat.lt_succ_of_lt (h _ hm)))
theorem lt_all1 {news : Led} {d : Addr} (h : LtAll d news) : ∀ p ∈ news, p.1 ≠ d + 1 := fun p hp => Nat.ne_of_lt (Nat.lt_succ_of_lt (h p hp))
theorem lt_all2 {news : Led} {d : Addr} (h : LtAll d news) : ∀ p ∈ news, p.1 ≠ d + 2 := fun p hp => Nat.ne_of_lt (Nat.lt_succ_of_lt (Nat.lt_succ_of_lt (h p hp)))
theorem off_lt {d : Addr} {l : Led} (h : AllLt d l) : ∀ p ∈ l, p.1 ≠ d := fun p hp => Nat.ne_of_lt (allLt_all h p hp)
theorem off_lt1 {d : Addr} {l : Led} (h : AllLt d l) : ∀ p ∈ l, p.1 ≠ d + 1 := fun p hp => Nat.ne_of_lt (Nat.lt_succ_of_lt (allLt_all h p hp))
theorem off_lt2 {d : Addr} {l : Led} (h : AllLt d l) : ∀ p ∈ l, p.1 ≠ d + 2 := fun p hp => Nat.ne_of_lt (Nat.lt_succ_of_lt (Nat.lt_succ_of_lt (allLt_all h p hp)))
section
variable {news l l' : Led} {a d : Addr} {o : Obj} {p : Addr × Obj}
theorem lt_offM (h : ∀ p ∈ news, @LT.lt Nat _ p.1 d) (e : l.map Prod.fst = news.map Prod.fst) : ∀ p ∈ l, p.1 ≠ d := fun p hp => by
 have h1 : p.1 ∈ news.map Prod.fst := e ▸ List.mem_map_of_mem hp
 obtain ⟨q, hq, h2⟩ := List.mem_map.mp h1
 exact h2 ▸ Nat.ne_of_lt (h q hq)
theorem off_cons (h : @Ne Nat a d) (t : ∀ p ∈ l, p.1 ≠ d) : ∀ p ∈ (a, o) :: l, p.1 ≠ d := List.forall_mem_cons.mpr ⟨h, t⟩
theorem off_apd (h : ∀ p ∈ l', p.1 ≠ d) (t : ∀ p ∈ l, p.1 ≠ d) : ∀ p ∈ l' ++ l, p.1 ≠ d := List.forall_mem_append.mpr ⟨h, t⟩
theorem lt_cons (h : @LT.lt Nat _ a d) (t : ∀ p ∈ l, @LT.lt Nat _ p.1 d) : ∀ p ∈ (a, o) :: l, @LT.lt Nat _ p.1 d := List.forall_mem_cons.mpr ⟨h, t⟩
theorem lt_apd (h : ∀ p ∈ l', @LT.lt Nat _ p.1 d) (t : ∀ p ∈ l, @LT.lt Nat _ p.1 d) : ∀ p ∈ l' ++ l, @LT.lt Nat _ p.1 d := List.forall_mem_append.mpr ⟨h, t⟩
theorem sub_same (h : ∀ q ∈ l, q ∈ l') : ∀ q ∈ p :: l, q ∈ p :: l' := List.forall_mem_cons.mpr ⟨.head _, fun q hq => .tail _ (h q hq)⟩
theorem sub_cons (h : p ∈ l') (t : ∀ q ∈ l, q ∈ l') : ∀ q ∈ p :: l, q ∈ l' := List.forall_mem_cons.mpr ⟨h, t⟩
theorem sub_add (h : ∀ q ∈ l, q ∈ l') : ∀ q ∈ l, q ∈ p :: l' := fun q hq => .tail _ (h q hq)
theorem sub_apd {k : Led} (h : ∀ q ∈ k, q ∈ l') (t : ∀ q ∈ l, q ∈ l') : ∀ q ∈ k ++ l, q ∈ l' := List.forall_mem_append.mpr ⟨h, t⟩
theorem sub_left {k : Led} (h : ∀ q ∈ l, q ∈ l') : ∀ q ∈ l, q ∈ k ++ l' := fun q hq => List.mem_append_right _ (h q hq)
theorem sub_right {k : Led} (h : ∀ q ∈ l, q ∈ k) : ∀ q ∈ l, q ∈ k ++ l' := fun q hq => List.mem_append_left _ (h q hq)
variable {T : Type} {a b c d x : T} {l : List T}
theorem mem0 : a ∈ a :: l := .head _
theorem memt (h : x ∈ l) : x ∈ a :: l := .tail _ h
theorem mem1 : b ∈ a :: b :: l := .tail _ (.head _)
theorem mem2 : c ∈ a :: b :: c :: l := .tail _ (.tail _ (.head _))
theorem mem3 : d ∈ a :: b :: c :: d :: l := .tail _ (.tail _ (.tail _ (.head _)))
theorem mem4 (h : x ∈ l) : x ∈ a :: b :: c :: d :: l := .tail _ (.tail _ (.tail _ (.tail _ h)))
end
section
variable {h₀ h : Heap} {L a : Addr} {o : Obj} {l : Led} {p p2 p3 p4 p5 p6 : Addr × Obj} {m : Str → Option Value}
theorem fr_names (_ : Fr h₀ L h m) : ∃ h₀' L', h₀' = h₀ ∧ L' = L := ⟨_, _, rfl, rfl⟩
theorem led1 (_ : News h₀ L h ((a, o) :: l)) : ∃ a' o', a' = a ∧ o' = o := ⟨_, _, rfl, rfl⟩
theorem led2 (_ : News h₀ L h (p :: (a, o) :: l)) : ∃ a' o', a' = a ∧ o' = o := ⟨_, _, rfl, rfl⟩
theorem led3 (_ : News h₀ L h (p :: p2 :: (a, o) :: l)) : ∃ a' o', a' = a ∧ o' = o := ⟨_, _, rfl, rfl⟩
theorem led4 (_ : News h₀ L h (p :: p2 :: p3 :: (a, o) :: l)) : ∃ a' o', a' = a ∧ o' = o := ⟨_, _, rfl, rfl⟩
end
noncomputable def KvsAre (tl : Led) (kvs : List (Int × Value)) (ds : List (Int × Dat)) : Prop := kvs.map (·.1) = ds.map (·.1) ∧ DatAll tl (kvs.map (·.2)) (ds.map (·.2))
theorem stored_new {kvs : List (Int × Value)} {k : Int} {v : Value} (h : k ∉ kvs.map (·.1)) : stored kvs k v = kvs ++ [(k, v)] := by
 unfold stored
 rw [if_neg]
 simp only [List.any_eq_true, decide_eq_true_eq, not_exists, not_and]
 intro kv hkv e
 exact h (e ▸ List.mem_map_of_mem hkv)
theorem allLt_append {d : Addr} : ∀ {l l' : Led}, AllLt d (l ++ l') ↔ AllLt d l ∧ AllLt d l'
 |[], _ => by simp [AllLt]
 |p :: l, l' => by simp only [List.cons_append, AllLt, allLt_append, and_assoc]
theorem ints_names {vs : List Value} {ns : List Int} (_ : IntsAre vs ns) : ∃ vs' ns', vs' = vs ∧ ns' = ns := ⟨_, _, rfl, rfl⟩
noncomputable def Apart (a b : Addr) : Prop := a ≠ b
theorem Apart.out {a b : Addr} (h : Apart a b) : a ≠ b := h
theorem Apart.out' {a b : Addr} (h : Apart b a) : a ≠ b := Ne.symm h
noncomputable def OffA (d : Addr) : Led → Prop
 |[] => True
 |p :: l => Apart p.1 d ∧ OffA d l
theorem offA_append {d : Addr} : ∀ {l l' : Led}, OffA d (l ++ l') ↔ OffA d l ∧ OffA d l'
 |[], _ => by simp [OffA]
 |p :: l, l' => by simp only [List.cons_append, OffA, offA_append, and_assoc]
theorem OffA.all {d : Addr} : ∀ {l : Led}, OffA d l → ∀ p ∈ l, p.1 ≠ d
 |[], _, _, hp => nomatch hp
 |q :: l, h, p, hp => by
  rcases List.mem_cons.mp hp with rfl | hp
  ·exact h.1
  ·exact OffA.all h.2 p hp
theorem OffA.of {d : Addr} : ∀ {l : Led}, (∀ p ∈ l, p.1 ≠ d) → OffA d l
 |[], _ => trivial
 |_ :: _, h => ⟨h _ (.head _), OffA.of fun p hp => h p (.tail _ hp)⟩
theorem OffA.of1 {d : Addr} : ∀ {l : Led}, LCg.Off1 d l → OffA d l
 |[], _ => trivial
 |_ :: _, h => ⟨h.1, OffA.of1 h.2⟩
noncomputable def New (news add : Led) : Prop := ∀ p ∈ add, ∀ q ∈ news, q.1 ≠ p.1
theorem New.off {news add : Led} {d : Addr} {o : Obj} (h : New news add) (hm : (d, o) ∈ news) : ∀ p ∈ add, p.1 ≠ d := fun p hp => Ne.symm (h p hp _ hm)
theorem new_lt {B : Addr} {news add : Led} (h : ∀ q ∈ news, q.1 < B) (ho : Over B add) : New news add := fun p hp q hq => Nat.ne_of_lt (Nat.lt_of_lt_of_le (h q hq) (ho p hp))
theorem new_cons {news add : Led} {a : Addr} {o : Obj} (h : ∀ q ∈ news, q.1 ≠ a) (ha : New news add) : New news ((a, o) :: add) := fun p hp q hq => by
 rcases List.mem_cons.mp hp with rfl | hp
 ·exact h q hq
 ·exact ha p hp q hq
theorem new_nil {news : Led} : New news [] := fun _ hp => nomatch hp
theorem new_app {news a b : Led} (h : New news a) (h' : New news b) : New news (a ++ b) := fun p hp => (List.mem_append.mp hp).elim (h p) (h' p)
theorem new_sub {news news' add : Led} (h : New news add) (hs : ∀ p ∈ news', p ∈ news) : New news' add := fun p hp q hq => h p hp q (hs q hq)
noncomputable def pk (l ix : List Nat) : List Nat := ix.map fun i => l.getD i 0
theorem pk_inj {l : List Nat} (h : l.Nodup) {i j : Nat} (hi : i < l.length) (hj : j < l.length) (e : l.getD i 0 = l.getD j 0) : i = j := by
 rw [List.getD_eq_getElem?_getD, List.getD_eq_getElem?_getD, List.getElem?_eq_getElem hi, List.getElem?_eq_getElem hj, Option.getD_some, Option.getD_some] at e
 have p := List.pairwise_iff_getElem.mp h
 rcases Nat.lt_trichotomy i j with q | q | q
 ·exact absurd e (p i j hi hj q)
 ·exact q
 ·exact absurd e.symm (p j i hj hi q)
theorem pk_nodup {l ix : List Nat} (h : l.Nodup) (hl : (ix.all fun i => decide (i < l.length)) = true) (hx : ix.Nodup) : (pk l ix).Nodup := by
 rw [List.all_eq_true] at hl
 unfold pk
 rw [List.nodup_iff_pairwise_ne, List.pairwise_map]
 refine List.Pairwise.imp_of_mem (R := fun a b => a ≠ b) (fun {a b} ha hb hne e => hne ?_) (List.nodup_iff_pairwise_ne.mp hx)
 exact pk_inj h (of_decide_eq_true (hl a ha)) (of_decide_eq_true (hl b hb)) e
theorem pk_off {l ix jx : List Nat} (h : l.Nodup) (hl : ((ix ++ jx).all fun i => decide (i < l.length)) = true) (hd : (ix.all fun i => !jx.contains i) = true) : ∀ a ∈ pk l ix, a ∉ pk l jx := by
 rw [List.all_eq_true] at hl hd
 intro a ha hb
 obtain ⟨i, hi, e1⟩ := List.mem_map.mp ha
 obtain ⟨j, hj, e2⟩ := List.mem_map.mp hb
 have e := pk_inj h (of_decide_eq_true (hl i (List.mem_append_left _ hi))) (of_decide_eq_true (hl j (List.mem_append_right _ hj))) (e1.trans e2.symm)
 have q := hd i hi
 rw [e] at q
 simp [hj] at q
theorem pk_sub {l ix : List Nat} (h : (ix.all fun i => decide (i < l.length)) = true) {a : Nat} (hm : a ∈ pk l ix) : a ∈ l := by
 rw [List.all_eq_true] at h
 obtain ⟨i, hi, e⟩ := List.mem_map.mp hm
 rw [← e, List.getD_eq_getElem?_getD, List.getElem?_eq_getElem (of_decide_eq_true (h i hi)), Option.getD_some]
 exact List.getElem_mem _
theorem nd_ne {l : List Nat} (h : l.Nodup) (i j : Nat) (e : (decide (i ≠ j) && (decide (i < l.length) && decide (j < l.length))) = true) : l.getD i 0 ≠ l.getD j 0 := by
 simp only [Bool.and_eq_true, decide_eq_true_eq] at e
 exact fun q => e.1 (pk_inj h e.2.1 e.2.2 q)

end
theorem Off9.noeps9 : True := trivial
theorem Noi9.noint9 : True := trivial
theorem Rm9.norm9 : True := trivial
local macro_rules | `(tactic| walk_at $s:str) => do let t := Lean.Syntax.mkStrLit ("my " ++ s.getString); `(tactic| k_extra $t)
local macro_rules | `(tactic| w_how) => `(tactic| k_extra "lo")
local macro_rules | `(tactic| f_tup) => `(tactic| k_extra "uf")
local macro_rules | `(tactic| dict_fin_case) => `(tactic| k_extra "dict_fin_case")
local macro_rules | `(tactic| k_steps) => `(tactic| k_extra "k_steps")
local macro_rules | `(tactic| k_mem) => `(tactic| k_extra "kas")
local macro_rules | `(tactic| tb_rel) => `(tactic| k_extra "tb_rel")
local macro_rules | `(tactic| tb_start) => `(tactic| k_extra "tb_start")
local macro_rules | `(tactic| k_ne) => `(tactic| k_extra "kne")
local macro_rules | `(tactic| k_all) => `(tactic| k_extra "kbo")
local macro_rules | `(tactic| tb_lt) => `(tactic| k_extra "kba")
local macro_rules | `(tactic| k_room) => `(tactic| k_extra "k_room")
local macro_rules | `(tactic| kqd_sub) => `(tactic| k_extra "kqs")
local macro_rules | `(tactic| ktr_room) => `(tactic| k_extra "rm")
local macro_rules | `(tactic| ktr_units) => `(tactic| k_extra "rm")
local macro_rules | `(tactic| ke_room) => `(tactic| k_extra "rm")
local macro_rules | `(tactic| accj_open) => `(tactic| k_extra "aj")
local macro_rules | `(tactic| kas_types) => `(tactic| k_extra "kas")
local macro_rules | `(tactic| accm_open) => `(tactic| k_extra "am")
local macro_rules | `(tactic| kln_le) => `(tactic| k_extra "kne")
local macro_rules | `(tactic| kbo_bools) => `(tactic| k_extra "kbo")
local macro_rules | `(tactic| kba_ints) => `(tactic| k_extra "kba")
local macro_rules | `(tactic| ktr_enter) => `(tactic| k_extra "kte")
local macro_rules | `(tactic| k_lt $h:ident) => `(tactic| skip)
local macro_rules | `(tactic| kct_strs) => `(tactic| k_extra "kqs")
local macro_rules | `(tactic| size_fits) => `(tactic| k_extra "szf")
local macro_rules | `(tactic| k_in) => `(tactic| k_extra "kin")
local macro_rules | `(tactic| wp_step) => `(tactic| k_extra "wps")
local macro_rules | `(tactic| intro _) => `(tactic| intro x9)
local macro_rules | `(tactic| intro _ _) => `(tactic| intro x9 y9)
local macro_rules | `(tactic| intro _ _ _) => `(tactic| intro x9 y9 z9)
local macro_rules | `(tactic| intro _ _ _ _) => `(tactic| intro x9 y9 z9 w9)
local macro_rules | `(tactic| intro _ _ _ _ _ _ _ _ _) => `(tactic| intro x9 y9 z9 w9 v9 u9 t9 s9 r9)
local macro_rules | `(tactic| intro $x:ident) => `(tactic| first | (k_extra "i1"; intros $x:ident; clear_value $x:ident) | intros $x:ident)
local macro_rules | `(tactic| intro $a:ident $b:ident) => `(tactic| first | (k_extra "i2"; intros $a:ident $b:ident; clear_value $a:ident $b:ident) | (intro $a:ident; intro $b:ident))
local macro_rules | `(tactic| intro $a:ident $b:ident $c:ident) => `(tactic| first | (k_extra "i3"; intros $a:ident $b:ident $c:ident; clear_value $a:ident $b:ident $c:ident) | (intro $a:ident $b:ident; intro $c:ident))
local macro_rules | `(tactic| intro $a:ident $b:ident $c:ident $d:ident) => `(tactic| first | (k_extra "i4"; intros $a:ident $b:ident $c:ident $d:ident; clear_value $a:ident $b:ident $c:ident $d:ident) | (intro $a:ident $b:ident $c:ident; intro $d:ident))
local macro_rules | `(tactic| intro $a:ident $b:ident $c:ident $d:ident $e:ident $y:ident*) => `(tactic| first | (k_extra "i4"; intros $a:ident $b:ident $c:ident $d:ident; clear_value $a:ident $b:ident $c:ident $d:ident; intro $e:ident $y:ident*) | (k_extra "i3"; intros $a:ident $b:ident $c:ident; clear_value $a:ident $b:ident $c:ident; intro $d:ident $e:ident $y:ident*) | (k_extra "i2"; intros $a:ident $b:ident; clear_value $a:ident $b:ident; intro $c:ident $d:ident $e:ident $y:ident*) | (intro $a:ident; intro $b:ident $c:ident $d:ident $e:ident $y:ident*))
local macro_rules | `(tactic| passes_own) => `(tactic| (k_extra "po"; passes_own))
local macro_rules | `(tactic| k_fold) => `(tactic| k_extra "fold")
local macro_rules | `(tactic| km_mul $x:ident) => `(tactic| first | (intros $x:ident; clear_value $x:ident) | (k_extra "sa"; intros $x:ident) | (k_extra "sx"; intros $x:ident; clear_value $x:ident) | (k_extra "sp"; intro $x:ident) | (k_extra "sb"; intros $x:ident))
theorem words_all : True := by
 k_with "my ite" => (with_reducible first | refine ite_ff ?_ | refine ite_tt ?_ | (k_closed; first | refine ite_pos (by decide) ?_ | refine ite_neg (by decide) ?_))
 k_with "dict_fin_case" => first | (first | lia | omega) | (accm_open; (first | lia | omega))
 k_with "rm" => ((fail_if_success (have h9 := norm9)); first | exact roomj (by with_reducible assumption) rfl | exact roomk (by with_reducible assumption) rfl | ((with_reducible show _ < recursionLimit); (have hr9 : ((_ + _ : Nat) < recursionLimit) := by with_reducible assumption); first | exact roomj hr9 rfl | exact roomk (k := 1) hr9 rfl | exact roomk (k := 2) hr9 rfl) | ((with_reducible show _ < cLine); (have hr9 : ((_ + _ : Nat) < cLine) := by with_reducible assumption); first | exact roomj hr9 rfl | exact roomk (k := 3) hr9 rfl | exact roomk (k := 1) hr9 rfl | exact roomk (k := 6) hr9 rfl))
 k_with "aj" => ((try dsimp only); (try (show wpAny _ ?cA9 (execs _ ?cE9) _ _ _; let A9 := ?cA9; let e9 := ?cE9; show wpAny _ A9 (execs _ e9) _ _ _)); (try k_fold))
 k_with "my execs cons" => (with_reducible refine SeqQ.cons ?_)
 k_with "my eval Tuple" => ((with_reducible refine tup_lit (by k_asm) (by k_asm) ?_); intro D' h' F' N' l1)
 k_with "my newTuple" => ((with_reducible refine kup_newTuple (by k_asm) (by k_asm) ?_ ?_); rotate_left; (focus (k_dflt kmk_size)); intro D' h' F' N' l1)
 k_with "my execs nil" => (with_reducible refine wpAny_execs_nil ?_)
 k_with "k_steps" => repeat' (first | (k_unfold; (try dsimp only)) | (with_reducible first | refine SeqQ.next ?_ | refine SeqQ.ret ?_ | refine SeqQ.brk ?_ | refine SeqQ.cont ?_) | (k_end; kc_close) | walk1 | (dsimp only; walk1) | (leave1; (try dsimp only)) | fail "no step")
 k_with "kas" => first | (with_reducible first | exact mem0 | exact mem1 | exact mem2 | exact mem3) | ((with_reducible refine mem4 ?_); k_extra "kas") | ((fail_if_success (with_reducible refine mem4 ?_)); k_extra "kat")
 k_with "kad" => first | exact mem0 | exact mem1 | exact mem2 | exact mem3 | (refine mem4 ?_; k_extra "kad") | ((fail_if_success (with_reducible refine mem4 ?_)); first | (refine memt ?_; k_extra "kad") | (refine List.mem_append_right _ ?_; k_extra "kad") | (refine List.mem_append_left _ ?_; k_extra "kad"))
 k_with "kat" => first | ((with_reducible refine memt ?_); k_extra "kat") | ((with_reducible refine List.mem_append_right _ ?_); k_extra "kas") | ((with_reducible refine List.mem_append_left _ ?_); k_extra "kas") | with_reducible assumption
 k_with "tb_rel" => first | exact Take.head | (refine' Take.tail ?_; tb_rel)
 k_with "tb_start" => first | (refine' Tl.cons ?_; tb_start) | exact Tl.nil
 k_with "am" => (repeat ((with_reducible rename LtAll _ _ => hz9); (have hw9 := allLt_of hz9); clear hz9; (try simp only [AllLt, allLt_append, and_true, List.cons_append, List.nil_append] at hw9); (repeat (have h9a := And.left hw9; replace hw9 := And.right hw9))))
 k_with "kne" => first | (with_reducible assumption) | (with_reducible exact Ne.symm (by assumption)) | (with_reducible exact Apart.out (by assumption)) | (with_reducible exact Apart.out' (by assumption)) | (exact lt_ne (by with_reducible assumption) (by k_mem)) | (exact lt_ne' (by with_reducible assumption) (by k_mem)) | (exact lt_ne1 (by with_reducible assumption) (by k_mem)) | (exact lt_ne2 (by with_reducible assumption) (by k_mem)) | (accm_open; refine neN ?_; (try dsimp only); (first | lia | omega))
 k_with "kbo" => first | (with_reducible assumption) | (exact lt_all (by with_reducible assumption)) | (with_reducible exact lt_all1 (by assumption)) | (with_reducible exact lt_all2 (by assumption)) | exact List.forall_mem_nil _ | (exact lt_offM (by with_reducible assumption) rfl) | (refine' off_cons ?_ ?_; (focus (k_extra "kne")); k_extra "kbo") | (refine' off_apd ?_ ?_; (focus (k_extra "kbo")); k_extra "kbo") | (refine off_lt ?_; with_reducible assumption) | (refine OffA.all ?_; with_reducible assumption) | (refine off_lt1 ?_; with_reducible assumption) | (refine off_lt2 ?_; with_reducible assumption) | (exact lt_off (by with_reducible assumption) (fun p9 hp9 => by k_mem)) | (exact lt_off1 (by with_reducible assumption) (fun p9 hp9 => by k_mem)) | (exact lt_off2 (by with_reducible assumption) (fun p9 hp9 => by k_mem)) | (exact New.off (by assumption) (by k_mem)) | (intro p9 hp9; (have hov9 := (by assumption : Over _ _) p9 hp9); refine neN ?_; (first | lia | omega))
 k_with "kba" => first | (with_reducible assumption) | exact List.forall_mem_nil _ | (refine' lt_cons ?_ ?_; (focus (first | (exact lt_get (by with_reducible assumption) (by k_mem)) | (accm_open; refine ltN ?_; (try dsimp only); (first | lia | omega)))); k_extra "kba") | (refine' lt_apd ?_ ?_; (focus (k_extra "kba")); k_extra "kba") | (exact lt_sub (by with_reducible assumption) (fun p9 hp9 => by k_mem)) | (refine allLt_all ?_; assumption)
 k_with "my call builtin:len" => (k_here; (with_reducible show wpAny _ _ (call (Value.builtin "len") [Value.ref _]) _ _ _); k_dflt (refine my_len (by k_asm) (by k_mem) (by (first | lia | omega)) ?_))
 k_with "my subscriptTail" => (k_here; (with_reducible show wpAny _ _ (subscriptTail _ _ (Value.ref _) (Value.int _ _)) _ _ _); k_dflt (first | (refine my_itemT' (by k_asm) (by k_mem) (by with_reducible assumption) (by first | with_reducible assumption | exact fun _ h9 => h9) (by (first | lia | omega)) (by first | with_reducible assumption | k_extra "my hk") (by (first | lia | omega)) ?_ (by with_unfolding_all rfl); intro z9 c9 t9 t9' t9'' hz9) | (refine my_itemI' (by k_asm) (by k_mem) (by with_reducible assumption) (by first | with_reducible assumption | exact fun _ h9 => h9) (by (first | lia | omega)) (by first | with_reducible assumption | k_extra "my hk") (by (first | lia | omega)) ?_ (by with_unfolding_all rfl); intro z9 c9 t9 t9' hz9)))
 k_with "my subscriptTail" => (k_here; (with_reducible show wpAny _ _ (subscriptTail _ _ (Value.ref _) (Value.int _ _)) _ _ _); k_dflt (refine item_tupleT (by exact News.isTup (by k_asm) (by k_mem)) (by decide) (by decide) (by rfl) (by rfl) ?_))
 k_with "my call builtin:list.insert" => (k_here; (with_reducible show wpAny _ _ (call (Value.builtin _) [Value.ref _, Value.int _ _, _]) _ _ _); k_dflt (refine my_insert (by k_asm) (by k_asm) (by k_upd) (by (first | lia | omega)) (by (first | lia | omega)) (by (first | lia | omega)) ?_); intro h' F' N')
 k_with "k_room" => ktr_room
 k_with "kte" => (refine' code_def ?k1 ?k2 ?k3 ?k4 ?k5 ?kA ?kF ?kK ?k6 ?k7 ?k8 ?k9 ?kB ?_ ?c2 ?c3 ?c4 ?c5; (case kA => exact rfl); (case kF => exact rfl); (case kK => assumption); (case k1 => k_asm); (case k2 => k_asm); (case k3 => k_asm); (case k4 => k_asm); (case k5 => k_asm); (case k6 => k_is); (case k7 => k_is); (case k8 => ktr_room); (case k9 => (refine' binds_K ?X ?hd ?ho ?hs ?h1 ?h2; (case X => k_in); (case hd => exact rfl); (case ho => k_is); (case hs => exact rfl); (case h1 => exact rfl); (case h2 => exact rfl))); (case c5 => decide); (case kB => exact locs rfl); (case c2 => exact rfl); (case c3 => exact rfl); (case c4 => exact rfl); k_whole; intro g' L' h' FG' F' N' B' X' T'; accj_open)
 k_with "kte" => first | (cell_enter; accj_open) | (refine' code_defC ?k1 ?k2 ?k3 ?k4 ?k5 ?kA ?kF ?kK ?k6 ?k7 ?k8 ?k9 ?kB ?kD ?_ ?c2 ?c3 ?c4; (case kA => exact rfl); (case kF => exact rfl); (case kK => first | exact rfl | assumption); (case k1 => k_asm); (case k2 => k_asm); (case k3 => k_asm); (case k4 => k_asm); (case k5 => k_asm); (case k6 => k_is); (case k7 => k_is); (case k8 => ktr_room); (case k9 => first | exact BindsTo.of_eq rfl | exact binds_K (by k_in) rfl (by k_is) rfl rfl rfl); (case kB => exact rfl); (case kD => decide +kernel); (case c2 => exact rfl); (case c3 => exact rfl); (case c4 => exact rfl); k_whole; intro g' L' h' tk' cells' FG' F' N' Y' B' X' T' l1; (try k_lt l1); k_cells Y'; (try simp only [List.cons_append, List.nil_append] at N'); accj_open)
 k_with "kqs" => first | (focus (repeat' first | exact fun _ h9 => h9 | (with_reducible refine sub_same ?_) | exact List.forall_mem_nil _ | (refine' sub_cons ?_ ?_; (focus (first | k_extra "kas" | k_extra "kad"))) | (refine' sub_apd ?_ ?_) | k_extra "sub_var"); done) | (intro p9 h9; simp [h9]; done)
 k_with "sub_var" => first | exact fun _ h9 => h9 | (refine sub_add ?_; k_extra "sub_var") | (refine sub_right ?_; k_extra "sub_var") | (refine sub_left ?_; k_extra "sub_var")
 k_with "my setItem ref int" => (k_here; k_dflt (refine kda_set (knd := PySem.intKind _ _) (by k_asm) (by k_asm) (by k_updF) (by with_reducible assumption) (intKind_is _ _ _ _) (by with_reducible assumption) ?_); intro h' o' F' N' hd'; (try dsimp only at N'))
 k_with "my subscriptTail" => (k_here; (with_reducible show wpAny _ _ (subscriptTail _ _ (Value.ref _) (Value.int _ _)) _ _ _); k_dflt (refine my_getDict (by k_asm) (by k_mem) (by with_reducible assumption) (by with_reducible assumption) ?_ (by with_unfolding_all rfl) (by (intro _; with_unfolding_all rfl))))
 k_with "my call builtin:sorted" => (k_here; (with_reducible show wpAny _ _ (call (Value.builtin "sorted") [Value.ref _]) _ _ _); k_dflt (refine my_sorted_dict (by rfl) (by k_asm) (by k_asm) (by k_mem) (by with_reducible assumption) (by with_reducible assumption) (by (first | lia | omega)) ?_); intro D9 vs9 ns9 h' tk' c9 F' N' l1 hi9 hp9 ho9; (try k_lt l1))
 k_with "my call builtin:list.reverse" => (k_here; (with_reducible show wpAny _ _ (call (Value.builtin _) [Value.ref _]) _ _ _); k_dflt (refine my_reverse (by k_asm) (by k_asm) (by k_upd) (by (first | lia | omega)) ?_); intro h' F' N')
 k_with "my FinE" => ((unfold LCg.FinE); intro D' h' tk' F' N' o1'; (replace o1' := OffA.of1 o1'); (try simp only [OffA, offA_append, and_true, List.cons_append, List.nil_append] at o1'); (repeat (have o1a := And.left o1'; replace o1' := And.right o1')); (try simp only [List.nil_append, List.cons_append] at N'); (try dsimp only))
 k_with "my FinA" => ((unfold LCg.FinA); intro D' h' tk' F' N' o1'; (replace o1' := OffA.of1 o1'); (try simp only [OffA, offA_append, and_true, List.cons_append, List.nil_append] at o1'); (repeat (have o1a := And.left o1'; replace o1' := And.right o1')); (try simp only [List.nil_append, List.cons_append] at N'); (try dsimp only))
 k_with "my callWith" => ((with_reducible show wpAny _ _ (callWith _ (Value.builtin _) (_ :: _) _ _) _ _ _); first | with_reducible refine callWith_method0 ?_ | refine callWith_method1 ?_)
 k_with "my subscriptTail Name Constant ref int" => (k_here; (with_reducible show wpAny _ _ (subscriptTail _ _ (Value.ref _) (Value.int _ _)) _ _ _); k_dflt (refine item_tupleT (by exact News.isTup (by k_asm) (by k_mem)) (by decide) (by decide) (by rfl) (by rfl) ?_))
 k_with "my enterX" => (refine code_defS (by k_asm) (by k_asm) (by k_asm) (by k_asm) (by k_asm) (by assumption) (by assumption) (by assumption) KtsTurn.refl (by exact rfl) (by k_is) (by k_is) (by ktr_room) (by exact BindsTo.of_eq rfl) (by exact locs rfl) ?_ (by assumption) (by exact rfl) (by exact rfl) (by exact rfl) (by decide); intro g' L' h' FG' F' N' B' X' T' D'; accj_open)
 k_with "my enter" => (refine code_def (by k_asm) (by k_asm) (by k_asm) (by k_asm) (by k_asm) (by exact rfl) (by exact rfl) (by assumption) (by k_is) (by k_is) (by ktr_room) (by (refine binds_K (by k_in) (by exact rfl) (by k_is) (by exact rfl) (by exact rfl) (by exact rfl))) (by exact locs rfl) ?_ (by exact rfl) (by exact rfl) (by exact rfl) (by decide); intro g' L' h' FG' F' N' B' X' T'; accj_open)
 k_with "my exec If" => (dsimp only; walk1)
 k_with "lo" => first | (law_clear; lia) | omega | lia
 k_with "my lq" => (law_clear; lia)
 k_with "uf" => ((try k_unmd); (try k_fold))
 k_with "szf" => first | (with_reducible assumption) | ((try simp only [PySem.sizeOk, PySem.sizeLine_eq, List.size_toArray, List.length_cons, List.length_nil]); first | (with_reducible assumption) | decide | (law_clear; omega))
 k_with "kin" => first | k_in_fast | exact Frag.In.keeps (by k_asm) (Fr.keep (by k_asm))
 k_with "my subscriptTail Name" => ((fail_if_success plain_pass); k_extra "my subscriptTail")
 k_with "my subscriptTail Subscript" => ((fail_if_success plain_pass); k_extra "my subscriptTail")
 k_with "my subscriptTail Attribute" => ((fail_if_success plain_pass); k_extra "my subscriptTail")
 k_with "my subscriptTail Call" => ((fail_if_success plain_pass); k_extra "my subscriptTail")
 k_with "my exec Assign cons ListComp" => (k_here; (with_reducible refine plainObj_wpAny_Assign_Attribute ?_ ?_); rotate_left; with_unfolding_all rfl)
 k_with "wps" => ((fail_if_success (with_reducible refine' PySem.wpAny_mkStr' ?_ ?_)); first | (with_reducible first | refine PySem.wpAny_pure ?_ | refine PySem.wpAny_bind ?_ | refine PySem.wpAny_holding ?_ | refine PySem.wpAny_standAt ?_ | refine PySem.wpAny_point ?_ | refine PySem.wpAny_rule ?_ | refine PySem.wpAny_letGo ?_ | refine PySem.wpAny_mkInt' ?_ | refine PySem.wpAny_fresh' ?_ | refine PySem.wpAny_alloc' ?_ | refine PySem.wpAny_attempt ?_ | refine PySem.wpAny_throw ?_ | refine PySem.wpAny_of_eq (by assumption) ?_ | refine PySem.wpAny_typeOf (by assumption) ?_ | refine PySem.wpAny_specialOf_val (by assumption) (by assumption) ?_ | refine PySem.wpAny_specialOf (by assumption) (by assumption) ?_ | refine PySem.wpAny_isInstance_val (by assumption) (by assumption) ?_ | refine PySem.wpAny_isInstance (by assumption) (by assumption) ?_ | refine PySem.wpAny_call ?_ | refine PySem.wpAny_runValue ?_ | refine PySem.wpAny_run ?_) | ((with_reducible apply PySem.wpAny_load'); focus (heap_get; done)) | ((with_reducible apply PySem.wpAny_update'); focus (heap_get; done)) | ((with_reducible apply PySem.wpAny_loadPart'); focus (heap_get; done)) | ((with_reducible apply PySem.wpAny_updatePart'); focus (heap_get; done)) | ((with_reducible apply PySem.wpAny_handled_none); focus (assumption; done)) | ((with_reducible apply PySem.wpAny_ite_false); focus (rfl; done)) | ((with_reducible apply PySem.wpAny_ite_true); focus (rfl; done)) | ((with_reducible apply PySem.wpAny_ite_false); focus (simp [*]; done)) | ((with_reducible apply PySem.wpAny_ite_true); focus (simp [*]; done)) | wp_delta)
 k_with "aj" => ((fail_if_success (have h9 := noeps9)); (((try dsimp only); (try k_fold); (try k_extra "foldE"))))
 k_with "k_steps" => ((fail_if_success (have h9 := noeps9)); (repeat' (first | ((with_reducible refine unq (by assumption) ?_); (try dsimp only)) | (k_unfold; (try dsimp only)) | (with_reducible first | refine SeqQ.next ?_ | refine SeqQ.ret ?_ | refine SeqQ.brk ?_ | refine SeqQ.cont ?_) | (k_end; kc_close) | walk1 | (dsimp only; walk1) | (leave1; (try dsimp only)) | fail "no step")))
 k_with "kte" => ((fail_if_success (have h9 := noeps9)); (first | (cell_enter; accj_open) | (refine' code_defC ?k1 ?k2 ?k3 ?k4 ?k5 ?kA ?kF ?kK ?k6 ?k7 ?k8 ?k9 ?kB ?kD ?_ ?c2 ?c3 ?c4; (case kA => exact rfl); (case kF => exact rfl); (case kK => first | exact rfl | assumption); (case k1 => k_asm); (case k2 => k_asm); (case k3 => k_asm); (case k4 => k_asm); (case k5 => k_asm); (case k6 => k_is); (case k7 => k_is); (case k8 => ktr_room); (case k9 => first | exact BindsTo.of_eq rfl | exact binds_K (by k_in) rfl (by k_is) rfl rfl rfl); (case kB => exact rfl); (case kD => decide +kernel); (case c2 => exact rfl); (case c3 => exact rfl); (case c4 => exact rfl); k_whole; intro g' L' h' tk' cells' FG' F' N' Y' B' X' T' l1; (try k_lt l1); revert Y'; k_extra "cells"; (try simp only [List.cons_append, List.nil_append] at N'); accj_open)))
 k_with "i1" => ((fail_if_success (have h9 := noint9)); (with_reducible first | refine (no_implicit_lambda% (all_eps ?_)) | refine (no_implicit_lambda% (all_eps (i := ⟨PySem.W.Dat.none⟩) ?_)) | refine (no_implicit_lambda% (all_eps (i := ⟨w0⟩) ?_)) | refine (no_implicit_lambda% (all_eps (i := ⟨PySem.Challenge.rw_np0139_01.prog⟩) ?_))))
 k_with "i2" => ((fail_if_success (have h9 := noint9)); (with_reducible refine (no_implicit_lambda% (all_eps2 ?_))))
 k_with "i3" => ((fail_if_success (have h9 := noint9)); (with_reducible refine (no_implicit_lambda% (all_eps3 ?_))))
 k_with "i4" => ((fail_if_success (have h9 := noint9)); (with_reducible refine (no_implicit_lambda% (all_eps4 ?_))))
 k_with "po" => ((fail_if_success (have h9 := noeps9)); (first | (with_reducible refine po_eq (by assumption) ?_) | (with_reducible refine poa_eq (by assumption) ?_)))
 k_with "fold" => ((fail_if_success (have h9 := noeps9)); (((fail_if_success (with_reducible refine unw (by assumption) ?_)); (with_reducible refine fold_q ?_); intros qk; clear_value (hq9 : qk = _))))
 k_with "foldE" => ((fail_if_success (have h9 := noeps9)); (((fail_if_success (with_reducible refine une (by assumption) ?_)); (with_reducible refine fold_e ?_); intros ek; clear_value (he9 : ek = _))))
 k_with "sa" => with_reducible refine and_arr ?_
 k_with "sx" => first | with_reducible refine ex_arr4 ?_ | with_reducible refine ex_arr3 ?_ | with_reducible refine ex_arr2 ?_ | with_reducible refine ex_arr1 ?_ | with_reducible refine ex_arr1 (i := ⟨PySem.W.Dat.none⟩) ?_ | refine ex_arr4 ?_ | refine ex_arr3 ?_ | refine ex_arr2 ?_ | refine ex_arr1 ?_
 k_with "sp" => with_reducible refine all_pair ?_
 k_with "sb" => refine and_arr ?_
 k_with "st" => first | with_reducible refine all_pair ?_ | with_reducible refine and_arr ?_ | refine and_arr ?_
 k_with "sr" => (intros o9_; subst o9_)
 k_with "sc" => (intros o9_; clear o9_)
 k_with "cells" => ((fail_if_success (have h9 := noeps9)); ((intros Y9; first | (refine arr ?_ (CellsAre.one Y9); km_mul oa9; k_extra "st"; k_extra "sr"; intro da9; clear Y9) | (refine arr ?_ (CellsAre.two Y9); km_mul oa9; km_mul ob9; k_extra "st"; k_extra "sr"; km_mul da9; intro db9; clear Y9) | fail "cells")))
 trivial
theorem In_B1.in_B1 : True := trivial
noncomputable section
open In_B1 Off9 Noi9
section
variable {prog : Program} {w : World} {A : Around} {E : Value → Shared → Prop} {s : Shared} {env : Env} {h₀ : Heap} {x : Str} {body : List Stmt} {Q : Flow → Shared → Prop}

noncomputable def TEnd {σ : Type} (h₀ : Heap) (L : Addr) (x : Str) (m₀ : Str → Option Value) (M : σ → Led) (rest : Led) (P : Led → σ → Prop) (own tl : Led) (s₁ s₂ : Shared) : Prop :=
 ∃ h' tk m' c' add, s₂ = { s₁ with heap := h', toks := tk } ∧ Fr h₀ L h' m' ∧ (∀ y, y ≠ x → m' y = m₀ y) ∧ News h₀ L h' (M c' ++ (add ++ (tl ++ (own ++ rest)))) ∧ (∀ p ∈ add, ∀ q ∈ own, q.1 ≠ p.1) ∧ P (add ++ tl) c'
noncomputable def TPost {σ : Type} (h₀ : Heap) (L : Addr) (x : Str) (m₀ : Str → Option Value) (M : σ → Led) (rest : Led) (P : Led → σ → Prop) (own tl : Led) (s₁ : Shared) (Q : Flow → Shared → Prop) (f : Flow) (s₂ : Shared) : Prop :=
 match f with
 |.ret v => Q (.ret v) s₂
 |.brk => Q .next s₂
 |_ => TEnd h₀ L x m₀ M rest P own tl s₁ s₂
theorem TEnd.intro {σ : Type} {L : Addr} {m₀ m' : Str → Option Value} {M : σ → Led} {rest all : Led} {P : Led → σ → Prop} {own tl : Led} {s₁ : Shared} {h' : Heap} {tk : Nat} (c' : σ) (add : Led) (F : Fr h₀ L h' m') (N : News h₀ L h' all) (hm : ∀ y, y ≠ x → m' y = m₀ y)
  (sub : ∀ p ∈ M c' ++ (add ++ (tl ++ (own ++ rest))), p ∈ all) (hn : ∀ p ∈ add, ∀ q ∈ own, q.1 ≠ p.1) (hp : P (add ++ tl) c') : TEnd h₀ L x m₀ M rest P own tl s₁ { s₁ with heap := h', toks := tk } :=
 ⟨h', tk, m', c', add, rfl, F, hm, fun p hp => N p (sub p hp), hn, hp⟩

theorem TPost.next {σ : Type} {L : Addr} {m₀ m' : Str → Option Value} {M : σ → Led} {rest all : Led} {P : Led → σ → Prop} {own tl : Led} {s₁ : Shared} {h' : Heap} {tk : Nat} (c' : σ) (add : Led) (F : Fr h₀ L h' m') (N : News h₀ L h' all) (hm : ∀ y, y ≠ x → m' y = m₀ y)
  (sub : ∀ p ∈ M c' ++ (add ++ (tl ++ (own ++ rest))), p ∈ all) (hn : ∀ p ∈ add, ∀ q ∈ own, q.1 ≠ p.1) (hp : P (add ++ tl) c') : TPost h₀ L x m₀ M rest P own tl s₁ Q .next { s₁ with heap := h', toks := tk } :=
 TEnd.intro c' add F N hm sub hn hp

theorem loopT {α σ : Type} (enc : α → Dat) (M : σ → Led) (adr : List Addr) (rest : Led) (P : List α → Led → σ → Prop) {l : Addr} {vs : List Value} {nn : Nat} {ds : List α} {r : Led} {m₀ : Str → Option Value} {c₀ : σ}
  (hadr : ∀ c, (M c).map (·.1) = adr) (hl : ∀ c, (l, listOf vs.toArray nn) ∈ M c) (D : DatAll r vs (ds.map enc)) (hh : A.handled = none) (F : Fr h₀ env.locals s.heap m₀) (N : News h₀ env.locals s.heap (M c₀ ++ rest)) (hp : P [] [] c₀)
  (turn : ∀ pre d post v c tl h tk own, ds = pre ++ d :: post → DatIn r v (enc d) → P pre tl c → (∀ a ∈ adr, ∀ p ∈ own, p.1 ≠ a) →
   Fr h₀ env.locals h (fun y => if y = x then some v else m₀ y) → News h₀ env.locals h (M c ++ (tl ++ (own ++ rest))) →
   wpAny (model prog w) A (execs body env) (TPost h₀ env.locals x m₀ M rest (P (pre ++ [d])) own tl { s with heap := h, toks := tk } Q) E { s with heap := h, toks := tk })
  (done : ∀ c tl (u : Option Value) h tk, P ds tl c → Fr h₀ env.locals h (fun y => if y = x then u else m₀ y) → News h₀ env.locals h (M c ++ (tl ++ rest)) → Q .next { s with heap := h, toks := tk }) :
  wpAny (model prog w) A (pyIter (.ref l)) (fun it s₂ => LoopAtV prog w A h₀ env x body Q E it s₂) E s := by
 have norm : ∀ {m' : Str → Option Value}, (∀ y, y ≠ x → m' y = m₀ y) → m' = fun y => if y = x then m' x else m₀ y := by
  intro m' h
  funext y
  by_cases hy : y = x
  ·subst hy; simp
  ·simp only [if_neg hy]; exact h y hy
 have hlen : vs.length = ds.length := by rw [D.length, List.length_map]
 refine kdl_iter (news := M c₀ ++ rest) (fun i m nx => ∃ c tl, nx = M c ++ (tl ++ rest) ∧ P (ds.take i) tl c ∧ ∀ y, y ≠ x → m y = m₀ y) hh (List.mem_append_left _ (hl c₀)) F N ⟨c₀, [], by simp, by simpa using hp, fun _ _ => rfl⟩ ?_ ?_
 ·rintro i v m₁ nx h tk own hv hoff hmem ⟨c, tl, rfl, hp', hm⟩ F₁ N₁
  have hi : i < ds.length := by rw [← hlen]; exact (List.getElem?_eq_some_iff.mp hv).1
  obtain ⟨v', hv', hd⟩ := D.get (k := i) (by rw [List.length_map]; exact hi)
  rw [hv] at hv'
  cases hv'
  rw [List.getElem_map] at hd
  have hs : ds.take (i + 1) = ds.take i ++ [ds[i]] := by rw [List.take_add_one, List.getElem?_eq_getElem hi]; rfl
  have e : ds = ds.take i ++ ds[i] :: ds.drop (i + 1) := by
   have h9 := List.take_append_drop (i + 1) ds
   rw [hs, List.append_assoc] at h9
   exact h9.symm
  have F₂ : Fr h₀ env.locals h (fun y => if y = x then some v else m₀ y) := by
   have e2 : (fun y => if y = x then some v else m₁ y) = fun y => if y = x then some v else m₀ y := by
    funext y
    by_cases hy : y = x
    ·simp [hy]
    ·simp only [if_neg hy]; exact hm y hy
   rw [← e2]; exact F₁
  have o1 : ∀ a ∈ adr, ∀ p ∈ own, p.1 ≠ a := fun a ha p hp => hoff p hp a (by rw [List.map_append, hadr]; exact List.mem_append_left _ ha)
  have o2 : ∀ q ∈ tl, ∀ p ∈ own, p.1 ≠ q.1 := fun q hq p hp => hoff p hp _ (List.mem_map_of_mem (List.mem_append_right _ (List.mem_append_left _ hq)))
  have o3 : ∀ q ∈ rest, ∀ p ∈ own, p.1 ≠ q.1 := fun q hq p hp => hoff p hp _ (List.mem_map_of_mem (List.mem_append_right _ (List.mem_append_right _ hq)))
  refine wpAny_mono (turn (ds.take i) ds[i] (ds.drop (i + 1)) v c tl h tk own e hd hp' o1 F₂ (fun p hp => N₁ p ?_)) (fun f s₂ q => ?_) fun _ _ e => e
  ·simp only [List.mem_append] at hp ⊢
   rcases hp with h | h | h | h <;> simp [h]
  have up : TEnd h₀ env.locals x m₀ M rest (P (ds.take i ++ [ds[i]])) own tl { s with heap := h, toks := tk } s₂ →
    InvEndG h₀ env.locals (fun m' nx => (l, listOf vs.toArray nn) ∈ nx ∧ ∃ c tl, nx = M c ++ (tl ++ rest) ∧ P (ds.take (i + 1)) tl c ∧ ∀ y, y ≠ x → m' y = m₀ y) own { s with heap := h, toks := tk } s₂ := by
   rintro ⟨h', tk', m', c', add, rfl, F', hm', N', hn', hp''⟩
   refine ⟨h', tk', m', _, M c' ++ ((add ++ tl) ++ rest), rfl, F', N', fun p hp => ?_, fun p hp => ?_, fun p hp b hb => ?_, List.mem_append_left _ (hl c'), c', add ++ tl, rfl, by rw [hs]; exact hp'', hm'⟩
   ·simp only [List.mem_append] at hp ⊢
    rcases hp with h | (h | h) | h <;> simp [h]
   ·simp [hp]
   ·rw [List.map_append, hadr] at hb
    rcases List.mem_append.mp hb with hb | hb
    ·exact o1 b hb p hp
    ·obtain ⟨q', hq', rfl⟩ := List.mem_map.mp hb
     rcases List.mem_append.mp hq' with hq' | hq'
     ·rcases List.mem_append.mp hq' with hq' | hq'
      ·exact hn' q' hq' p hp
      ·exact o2 q' hq' p hp
     ·exact o3 q' hq' p hp
  cases f with
  |ret v => exact q
  |brk => exact q
  |next => exact up q
  |cont => exact up q
 ·rintro m₁ nx h tk ⟨c, tl, rfl, hp', hm⟩ F₁ N₁
  rw [hlen, List.take_length] at hp'
  rw [norm hm] at F₁
  exact done c tl _ h tk hp' F₁ N₁
end

section
variable {prog : Program} {w : World} {A : Around} {h₀ : Heap} {L : Addr} {m : Str → Option Value} {env : Env} {ct elt : Expr} {x : Str} {scope : Scope} {cl : List (Str × Addr)} {s : Shared} {S : Led → Prop} {P : Nat → Value → Prop} {Fin : List Value → Led → Prop} {news : Led}
theorem my_comp {n : Nat} (J : Nat → List Value → Led → Prop) (h0 : J 0 [] news)
  (turn : ∀ i ys nw v I oI C oC D m₂ h tk (E' : Value → Shared → Prop), i < n → J i ys nw → P i v → LCg.NsObj oC m₂ → m₂ x = some v → Fr h₀ L h m → News h₀ L h ((I, oI) :: (C, oC) :: (D, LCg.lst ys) :: nw) → LCg.Off3 I C D nw → ((@Ne Nat I C) ∧ (@Ne Nat I D) ∧ (@Ne Nat C D)) →
   wpAny (model prog w) A (eval elt (compEnvC scope cl C env)) (LCg.CompEnd h₀ L m { s with heap := h, toks := tk } I oI C oC D (LCg.lst ys) S (fun y nw' => J (i + 1) (ys ++ [y]) nw')) E' { s with heap := h, toks := tk })
  (fin : ∀ ys nw, J n ys nw → Fin ys nw) : LCg.CompRest prog w A h₀ L m env elt x scope cl s S P Fin n 0 [] news := by
 have key : ∀ (j i : Nat) (ys : List Value) (nw : Led), i + j = n → J i ys nw → LCg.CompRest prog w A h₀ L m env elt x scope cl s S P Fin j i ys nw := by
  intro j
  induction j with
  |zero =>
   intro i ys nw hi hy
   have e : i = n := by w_how
   subst e
   exact LCg.CompRest.zero (fin ys nw hy)
  |succ j ih =>
   intro i ys nw hi hy
   refine LCg.CompRest.succ ?_
   intro v I oI C oC D m₂ h tk E' hv hC hx F N off ne
   refine wpAny_mono (turn i ys nw v I oI C oC D m₂ h tk E' (by w_how) hy hv hC hx F N off ne) (fun y s₂ hq => ?_) fun _ _ e => e
   obtain ⟨h', tk', nw', e, F', N', off', hS, hJ⟩ := hq
   exact ⟨h', tk', nw', e, F', N', off', hS, ih (i + 1) _ _ (by w_how) hJ⟩
 exact key n 0 [] news (by w_how) h0
end
section
variable {prog : Program} {w : World} {A : Around} {h₀ : Heap} {L : Addr} {m : Str → Option Value} {env : Env} {ct elt : Expr} {x : Str} {scope : Scope} {cl : List (Str × Addr)} {s : Shared} {S : Led → Prop} {P : Nat → Value → Prop} {Fin : List Value → Led → Prop} {news : Led}
theorem my_compT {n : Nat} (J : Nat → List Value → Led → Prop) (h0 : J 0 [] news)
  (turn : ∀ i ys nw v I oI C oC D m₂ h tk (E' : Value → Shared → Prop), i < n → J i ys nw → P i v → LCg.NsObj oC m₂ → m₂ x = some v → Fr h₀ L h m → News h₀ L h ((I, oI) :: (C, oC) :: (D, LCg.lst ys) :: nw) → LCg.Off3 I C D nw → ((@Ne Nat I C) ∧ (@Ne Nat I D) ∧ (@Ne Nat C D)) →
   wpAny (model prog w) A (isTrue ct (compEnvC scope cl C env) (eval ct (compEnvC scope cl C env))) (fun ok s' => if ok = true then
     wpAny (model prog w) A (eval elt (compEnvC scope cl C env)) (LCg.CompEnd h₀ L m { s with heap := h, toks := tk } I oI C oC D (LCg.lst ys) S (fun y nw' => J (i + 1) (ys ++ [y]) nw')) E' s'
    else LCg.CompEnd h₀ L m { s with heap := h, toks := tk } I oI C oC D (LCg.lst ys) S (fun _ nw' => J (i + 1) ys nw') Value.none s') E' { s with heap := h, toks := tk })
  (fin : ∀ ys nw, J n ys nw → Fin ys nw) : LCt.CompRestT prog w A h₀ L m env ct elt x scope cl s S P Fin n 0 [] news := by
 have key : ∀ (j i : Nat) (ys : List Value) (nw : Led), i + j = n → J i ys nw → LCt.CompRestT prog w A h₀ L m env ct elt x scope cl s S P Fin j i ys nw := by
  intro j
  induction j with
  |zero =>
   intro i ys nw hi hy
   have e : i = n := by w_how
   subst e
   exact LCt.CompRestT.zero (fin ys nw hy)
  |succ j ih =>
   intro i ys nw hi hy
   refine LCt.CompRestT.succ ?_
   intro v I oI C oC D m₂ h tk E' hv hC hx F N off ne
   refine wpAny_mono (turn i ys nw v I oI C oC D m₂ h tk E' (by w_how) hy hv hC hx F N off ne) (fun ok s' hq => ?_) fun _ _ e => e
   cases ok with
   |true =>
    simp only [if_true] at hq ⊢
    refine wpAny_mono hq (fun y s₂ hq => ?_) fun _ _ e => e
    obtain ⟨h', tk', nw', e, F', N', off', hS, hJ⟩ := hq
    exact ⟨h', tk', nw', e, F', N', off', hS, ih (i + 1) _ _ (by w_how) hJ⟩
   |false =>
    simp only [Bool.false_eq_true, if_false] at hq ⊢
    obtain ⟨h', tk', nw', e, F', N', off', hS, hJ⟩ := hq
    exact ⟨h', tk', nw', e, F', N', off', hS, ih (i + 1) _ _ (by w_how) hJ⟩
 exact key n 0 [] news (by w_how) h0
end

noncomputable def eD (kind : Str) (t : Int × Str) : Dat := .tuple [.int t.1, .str t.2, .str kind]
theorem kvs_len {tl : Led} {kvs : List (Int × Value)} {ds : List (Int × Dat)} (h : KvsAre tl kvs ds) : kvs.length = ds.length := by
 have := congrArg List.length h.1
 simpa using this
theorem kvs_snoc {tl : Led} {kvs : List (Int × Value)} {ds : List (Int × Dat)} {z : Addr} {o : Obj} {k : Int} {d : Dat} (h : KvsAre tl kvs ds) (hk : k ∉ ds.map (·.1)) (hd : DatIn [(z, o)] (.ref z) d) :
  KvsAre ([(z, o)] ++ tl) (stored kvs k (.ref z)) (ds ++ [(k, d)]) := by
 rw [stored_new (by rw [h.1]; exact hk)]
 refine ⟨by simp [h.1], ?_⟩
 simp only [List.map_append, List.map_cons, List.map_nil]
 exact (h.2.mono fun p hp => List.mem_append_right _ hp).append (.one (hd.mono fun p hp => List.mem_append_left _ hp))
theorem kvs_mono {tl tl' : Led} {kvs : List (Int × Value)} {ds : List (Int × Dat)} (h : KvsAre tl kvs ds) (hs : ∀ p ∈ tl, p ∈ tl') : KvsAre tl' kvs ds := ⟨h.1, h.2.mono hs⟩
theorem eD_in {z : Addr} {n : Nat} {a : Int} {x kind : Str} {t1 t2 t3 : Tok} {l : Led} (h : (z, tupO [.int a t1, .str x t2, .str kind t3] n) ∈ l) : DatIn l (.ref z) (eD kind (a, x)) :=
 .tuple h (.cons (.int _ _) (.cons (.str _ _) (.cons (.str _ _) .nil)))

noncomputable def allE (ds : List (Int × Int × Str)) (es : List (Int × Str)) : List (Int × Dat) := (ds.map fun t => (t.2.1, eD (Str.ofString "timer") (t.2.1, t.2.2))) ++ es.map fun t => (t.1, eD (Str.ofString "idle") t)
theorem allE_keys (ds : List (Int × Int × Str)) (es : List (Int × Str)) : (allE ds es).map (·.1) = ds.map (·.2.1) ++ es.map (·.1) := by simp [allE, Function.comp_def]
theorem allE_length (ds : List (Int × Int × Str)) (es : List (Int × Str)) : (allE ds es).length = ds.length + es.length := by simp [allE]

noncomputable def getE (l : List (Int × Dat)) (k : Int) : Dat := ((l.find? fun p => p.1 = k).map (·.2)).getD .none
theorem getE_mem {l : List (Int × Dat)} (hn : (l.map (·.1)).Nodup) {k : Int} {d : Dat} (h : (k, d) ∈ l) : getE l k = d := by
 induction l with
 |nil => cases h
 |cons p l ih =>
  obtain ⟨k', d'⟩ := p
  simp only [List.map_cons, List.nodup_cons] at hn
  unfold getE
  rcases List.mem_cons.mp h with e | h
  ·cases e; simp
  ·have : k' ≠ k := by rintro rfl; exact hn.1 (List.mem_map_of_mem (f := (·.1)) h)
   simp only [List.find?_cons, this, decide_false]
   exact ih hn.2 h
theorem getE_perm {l : List (Int × Dat)} (hn : (l.map (·.1)).Nodup) {ns : List Int} (hp : ns.Perm (l.map (·.1))) : (ns.map fun k => (k, getE l k)).Perm l := by
 have h1 : (ns.map fun k => (k, getE l k)).Perm ((l.map (·.1)).map fun k => (k, getE l k)) := hp.map _
 have h2 : (l.map (·.1)).map (fun k => (k, getE l k)) = l := by
  rw [List.map_map]
  conv => rhs; rw [← List.map_id l]
  refine List.map_congr_left fun p hp' => ?_
  obtain ⟨k, d⟩ := p
  simp only [Function.comp_def, id]
  rw [getE_mem hn hp']
 rw [h2] at h1
 exact h1
theorem dat_reverse {l : Led} {vs : List Value} {ds : List Dat} (h : DatAll l vs ds) : DatAll l vs.reverse ds.reverse := by
 induction vs generalizing ds with
 |nil => cases h; exact .nil
 |cons v vs ih =>
  cases h with
  |cons h1 h2 =>
   rw [List.reverse_cons, List.reverse_cons]
   exact (ih h2).append (.one h1)

end
theorem In_B2.in_B2 : True := trivial
noncomputable section
open In_B2 Off9 Noi9
section
variable {prog : Program} {w : World} {A : Around} {E : Value → Shared → Prop} {s : Shared} {h₀ : Heap} {L D : Addr} {m : Str → Option Value} {news : Led}

theorem seq_keeps {h : Heap} {a b : Addr} {o : Obj} {f : Obj → Obj} (hab : b ≠ a) (e : h.get? b = some o) : (h.update a f).get? b = some o := (Heap.get?_update_ne _ _ _ _ hab).trans e
theorem my_sort_ints {vs : List Value} {ns : List Int} {n : Nat} {Q : Value → Shared → Prop} (F : Fr h₀ L s.heap m) (N : News h₀ L s.heap ((D, listOf vs.toArray n) :: news)) (hD : ∀ p ∈ news, p.1 ≠ D) (hi : IntsAre vs ns) (h64 : ns.length < 64)
  (h : ∀ h' vs' ns' c, Fr h₀ L h' m → News h₀ L h' ((D, listOf vs'.toArray c) :: news) → IntsAre vs' ns' → ns'.Perm ns → ns'.Pairwise (· ≤ ·) → Q .none { s with heap := h' }) : wpAny (model prog w) A (call (.builtin "list.sort") [.ref D]) Q E s := by
 have z := N (D, listOf vs.toArray n) (.head _)
 have ho : s.heap.get? D = some (seqObj "list" vs.toArray n) := z.1
 have hlen : vs.length < 64 := by rw [hi.length]; exact h64
 refine wpAny_call_entry PyProof.Rows.slot_list_sort ⟨_, z.1, rfl⟩ PyProof.Rows.entry_list_sort (list_sort_tree (n := n) (vs := vs) ho hi hlen fun out ns' hI hp hP => ⟨.none, rfl, ?_⟩) (PyProof.Rows.args_list_sort _)
 have F1 : Fr h₀ L (s.heap.update D (Obj.mapSeq fun _ => (#[] : Array Value))) m := F.change (Heap.SameBut.update ..) z.2.1 z.2.2
 obtain ⟨c1, hc1⟩ : ∃ c1, (s.heap.update D (Obj.mapSeq fun _ => (#[] : Array Value))).get? D = some (seqObj "list" #[] c1) := ⟨_, get?_update_seq ho fun _ => #[]⟩
 have hc2 := Heap.get?_push_of_some (seqObj "list" #[] 0) (Heap.get?_push_of_some (seqObj "tuple" vs.toArray 0) hc1)
 have F4 : Fr h₀ L ((((s.heap.update D (Obj.mapSeq fun _ => (#[] : Array Value))).push (seqObj "tuple" vs.toArray 0)).push (seqObj "list" #[] 0)).update D (Obj.mapSeq fun _ => out)) m :=
  ((F1.push (seqObj "tuple" vs.toArray 0)).push (seqObj "list" #[] 0)).change (Heap.SameBut.update ..) z.2.1 z.2.2
 obtain ⟨c3, hc3⟩ : ∃ c3, ((((s.heap.update D (Obj.mapSeq fun _ => (#[] : Array Value))).push (seqObj "tuple" vs.toArray 0)).push (seqObj "list" #[] 0)).update D (Obj.mapSeq fun _ => out)).get? D = some (seqObj "list" out c3) := ⟨_, get?_update_seq hc2 fun _ => out⟩
 refine h _ out.toList ns' c3 F4 (fun p hp => ?_) hI hp hP
 rcases List.mem_cons.mp hp with rfl | hp
 ·refine ⟨?_, z.2⟩
  rw [Array.toArray_toList]
  exact hc3
 ·have q := N p (.tail _ hp)
  exact ⟨seq_keeps (hD p hp) (Heap.get?_push_of_some _ (Heap.get?_push_of_some _ (seq_keeps (hD p hp) q.1))), q.2⟩

theorem keys_ints {kvs : List (Int × Value)} : ∀ {vs : List Value}, vs.length = kvs.length → (∀ (j : Nat) (v : Value), vs[j]? = some v → ∃ k x, kvs[j]? = some (k, x) ∧ (intKind prog w).is k v = true) → IntsAre vs (kvs.map (·.1)) := by
 induction kvs with
 |nil =>
  intro vs hl _
  rw [List.eq_nil_of_length_eq_zero hl]
  exact .nil
 |cons kv kvs ih =>
  intro vs hl h
  match vs, hl with
  |v :: vs, hl =>
   obtain ⟨k, x, e, hk⟩ := h 0 v rfl
   have e' : kv = (k, x) := by simpa using e
   subst e'
   have hv : ∃ t, v = .int k t := by
    have hk' : Value.isInt k v = true := hk
    cases v <;> simp [Value.isInt] at hk'
    subst hk'
    exact ⟨_, rfl⟩
   obtain ⟨t, rfl⟩ := hv
   exact .cons k t (ih (by simpa using hl) fun j v hj => h (j + 1) v hj)

theorem my_sorted_dict {d : Addr} {o : Obj} {kvs : List (Int × Value)} {Q : Value → Shared → Prop} (hh : A.handled = none) (F : Fr h₀ L s.heap m) (N : News h₀ L s.heap news) (hm : (d, o) ∈ news) (hd : o.IsDictOf (intKind prog w) kvs) (lo : (d == sysModules) = false) (h64 : kvs.length < 64)
  (h : ∀ D vs ns h' tk c, Fr h₀ L h' m → News h₀ L h' ((D, listOf vs.toArray c) :: news) → (∀ q ∈ news, q.1 < D) → IntsAre vs ns → ns.Perm (kvs.map (·.1)) → ns.Pairwise (· ≤ ·) → Q (.ref D) { s with heap := h', toks := tk }) :
  wpAny (model prog w) A (call (.builtin "sorted") [.ref d]) Q E s := by
 obtain ⟨ep, hat⟩ := (kda_dict N hm hd).dictAt
 refine kdu_sorted (kdl_dict (knd := intKind prog w) (kvs := kvs) (ep := ep) lo) hh F N hat (by rw [sizeLine_eq]; w_how) fun B h' tk vs F' N' l1 hl hv => ?_
 have hi := keys_ints hl hv
 exact my_sort_ints F' N' (fun p hp => Nat.ne_of_lt (l1 p hp)) hi (by rw [List.length_map]; exact h64) fun h'' vs' ns' c F'' N'' a b c' => h _ _ _ _ _ _ F'' N'' l1 a b c'

theorem my_reverse {vs : List Value} {n : Nat} {news' : Led} {Q : Value → Shared → Prop} (F : Fr h₀ L s.heap m) (N : News h₀ L s.heap news) (U : Upd D (listOf vs.toArray n) (listOf vs.reverse.toArray n) news news') (hz : vs.length < 16000000)
  (h : ∀ h', Fr h₀ L h' m → News h₀ L h' news' → Q .none { s with heap := h' }) : wpAny (model prog w) A (call (.builtin "list.reverse") [.ref D]) Q E s :=
 kl_reverse F N (l := vs.reverse) rfl U (by show vs.length ≤ _; rw [sizeLine_eq]; w_how) h
theorem my_getDict {d : Addr} {o : Obj} {kvs : List (Int × Value)} {k : Int} {u : Tok} {v : Value} {value slice : PySem.Expr} {Q : Value → Shared → Prop} (N : News h₀ L s.heap news) (hp : (d, o) ∈ news) (hd : o.IsDictOf (intKind prog w) kvs) (hl : valueAt kvs k = some v) (h : Q v { s with toks := s.toks + 1 })
  (hs : subscripted slice false (.ref d) (.int k u) = operate [.ref d, .int k u] (getItem (.ref d) (.int k u)) := by with_unfolding_all rfl) (hg : ∀ r, letTemporaryGo value (.ref d) r = pure () := by intro _; with_unfolding_all rfl) :
  wpAny (model prog w) A (subscriptTail value slice (.ref d) (.int k u)) Q E s := kda_item (knd := intKind prog w) N hp hd (intKind_is _ _ _ _) hl h hs hg
end
theorem valueAt_get {kvs : List (Int × Value)} {ds : List (Int × Dat)} {tl : Led} (h : KvsAre tl kvs ds) (hn : (ds.map (·.1)).Nodup) {k : Int} (hk : k ∈ ds.map (·.1)) : ∃ v d, (k, d) ∈ ds ∧ valueAt kvs k = some v ∧ DatIn tl v d := by
 obtain ⟨kd, hm, rfl⟩ := List.mem_map.mp hk
 obtain ⟨i, hi, e⟩ := List.getElem_of_mem hm
 have hl := kvs_len h
 have hi2 : i < kvs.length := by w_how
 obtain ⟨v, hv, hd⟩ := h.2.get (k := i) (by rw [List.length_map]; exact hi)
 have hv2 : (kvs[i]).2 = v := by
  have : (kvs.map (·.2))[i]? = some (kvs[i]).2 := by simp [hi2]
  rw [this] at hv
  exact Option.some.inj hv
 have hk2 : (kvs[i]).1 = kd.1 := by
  have := congrArg (fun l => l[i]?) h.1
  simp [hi2, hi, e] at this
  exact this
 rw [List.getElem_map, e] at hd
 refine ⟨v, kd.2, hm, ?_, hd⟩
 refine valueAt_of_get (i := i) (by rw [h.1]; exact hn) ?_
 rw [List.getElem?_eq_getElem hi2, ← hk2, ← hv2]
theorem tup_lit {prog : Program} {w : World} {A : Around} {E : Value → Shared → Prop} {s : Shared} {t : Nat} {hp h₀ : Heap} {L : Addr} {m : Str → Option Value} {news : Led} {env : Env} {a b : Int} {c : Str} {k1 k2 k3 k : Nat} {p1 p2 p3 p : Pos} {Q : Value → Shared → Prop} (F : Fr h₀ L hp m) (N : News h₀ L hp news)
  (h : ∀ D h', Fr h₀ L h' m → News h₀ L h' ((D, ({ cls := .type "tuple", data := .seq (List.toArray [.int a t, .int b (t + 1), .str c (t + 1 + 1)]) } : Obj)) :: news) → (∀ p ∈ news, p.1 < D) → Q (.ref D) { s with heap := h', toks := t + 1 + 1 + 1 }) :
  wpAny (model prog w) A (eval (.Tuple [.Constant (.int a) k1 p1, .Constant (.int b) k2 p2, .Constant (.str c) k3 p3] k p) env) Q E { s with heap := hp, toks := t } := by
 refine Tuple_ (args_cons (wpAny_Constant_int (args_cons (wpAny_Constant_int (args_cons (Constant_str (args_nil ?_)))))))
 exact kup_newTuple (s := { s with heap := hp, toks := t + 1 + 1 + 1 }) F N h (by rw [sizeLine_eq]; show 3 ≤ _; decide)

end
theorem In_C0.in_C0 : True := trivial
noncomputable section
open In_C0
namespace name_of_h
noncomputable abbrev T9 : Type := Program × World × (ExcName → Option Value) × (Str → Option Value) × (Str → Option Value) × Led × Int × Tok × Cx
noncomputable def S9 (prog : Program) (w : World) (mean : ExcName → Option Value) (mg : Str → Option Value) (mb : Str → Option Value) (news : Led) (n : Int) (t : Tok) (x9 : Cx) : Prop :=
 ∀ (h0 : 0 ≤ n) (h1 : n < 1000000), Does.at prog w mean mg mb 202 [.int n t] 1 8 news (fun r news' => ∃ t', r = .str (aft n) t' ∧ news' = news) x9.1 x9.2.1 x9.2.2.1 x9.2.2.2.1 x9.2.2.2.2.1 x9.2.2.2.2.2.1 x9.2.2.2.2.2.2.1 x9.2.2.2.2.2.2.2.1 x9.2.2.2.2.2.2.2.2.1 x9.2.2.2.2.2.2.2.2.2.1 x9.2.2.2.2.2.2.2.2.2.2.1 x9.2.2.2.2.2.2.2.2.2.2.2.1 x9.2.2.2.2.2.2.2.2.2.2.2.2.1 x9.2.2.2.2.2.2.2.2.2.2.2.2.2.1 x9.2.2.2.2.2.2.2.2.2.2.2.2.2.2.1 x9.2.2.2.2.2.2.2.2.2.2.2.2.2.2.2.1 x9.2.2.2.2.2.2.2.2.2.2.2.2.2.2.2.2
noncomputable def P9 : T9 → Prop := cur fun prog => cur fun w => cur fun mean => cur fun mg => cur fun mb => cur fun news => cur fun n => cur fun t => fun x9 => S9 prog w mean mg mb news n t x9
theorem ex9 : ∃ x, P9 x → ∀ y, P9 y := drinker P9 (PySem.Challenge.rw_np0139_01.prog, w0, default, default, default, default, default, default, cx0)
@[irreducible] def c9 : T9 := Classical.choose ex9
@[irreducible] def prog := c9.1
@[irreducible] def w := c9.2.1
@[irreducible] def mean := c9.2.2.1
@[irreducible] def mg := c9.2.2.2.1
@[irreducible] def mb := c9.2.2.2.2.1
@[irreducible] def news := c9.2.2.2.2.2.1
@[irreducible] def n := c9.2.2.2.2.2.2.1
@[irreducible] def t := c9.2.2.2.2.2.2.2.1
@[irreducible] def x9 := c9.2.2.2.2.2.2.2.2
theorem core9 : S9 prog w mean mg mb news n t x9 := by
 refine wr_z (by
 intro h0 h1 B F X T N hk hd hu hret
 refine wpAny_call ?_
 k_dflt ktr_enter
 f_tup
 k_steps
 exact hret _ _ _ _ (by assumption) (by assumption) ⟨_, rfl, rfl⟩
 ) ?_
 intro q f
 simpa using f (default : (by exact Fin 1))

theorem ok9 : ∀ y, P9 y := Classical.choose_spec ex9 (by with_unfolding_all exact core9)
end name_of_h
theorem name_of_does {prog : Program} {w : World} {mean : ExcName → Option Value} {mg mb : Str → Option Value} {news : Led} {n : Int} {t : Tok} (h0 : 0 ≤ n) (h1 : n < 1000000) :
  Does prog w mean mg mb 202 [.int n t] 1 8 news (fun r news' => ∃ t', r = .str (aft n) t' ∧ news' = news) := by
 intros dp un gd cn cs a ccd cl outer A₀ base h₀ L m s Q E
 exact name_of_h.ok9 (prog, w, mean, mg, mb, news, n, t, (dp, un, gd, cn, cs, a, ccd, cl, outer, A₀, base, h₀, L, m, s, Q, E)) h0 h1
end
theorem words_C0 : True := by
 k_with "my call ref" => (k_here; (with_reducible show wpAny _ _ (call (Value.ref 202) _) _ _ _); k_dflt (refine Does.use (by k_asm) (by k_asm) (by k_asm) (by k_asm) (by k_asm) (by first | exact rfl | assumption) (name_of_does (by w_how) (by w_how)) (by ktr_room) (by ktr_units) ?_); intro r9 h9 tk9 news9 F9 N9 hp9; obtain ⟨t9, e9, e9'⟩ := hp9; subst e9; subst e9'; (try dsimp only))
 trivial
theorem wordse_C0 : True := by
 k_with "my call ref" => ((fail_if_success (have h9 := noeps9)); ((k_here; (with_reducible show wpAny _ _ (call (Value.ref 202) _) _ _ _); k_dflt (refine Does.use (by k_asm) (by k_asm) (by k_asm) (by k_asm) (by k_asm) (by first | exact rfl | assumption) (name_of_does (by w_how) (by w_how)) (by ktr_room) (by ktr_units) ?_); intro r9 h9 tk9 news9 F9 N9 hp9; (first | (revert hp9; km_mul t9; km_mul e9; intro e9') | (obtain ⟨t9, e9, e9'⟩ := hp9)); subst e9; subst e9'; (try dsimp only))))
 trivial
theorem In_C1.in_C1 : True := trivial
noncomputable section
open In_C1
namespace when_idle_h
noncomputable abbrev T9 : Type := Program × World × (ExcName → Option Value) × (Str → Option Value) × (Str → Option Value) × Led × Led × (Led → Led) × Addr × Addr × Addr × Addr × Addr × (Nat → Tok) × Nat × Int × Int × Tok × Tok × Tok × List Value × List (Int × Str) × Str × Cx
noncomputable def S9 (prog : Program) (w : World) (mean : ExcName → Option Value) (mg : Str → Option Value) (mb : Str → Option Value) (rest : Led) (r : Led) (f : Led → Led) (ev : Addr) (ed : Addr) (q : Addr) (i : Addr) (er : Addr) (k : Nat → Tok) (ni : Nat) (now : Int) (num : Int) (tn : Tok) (tm : Tok) (t : Tok) (vs : List Value) (ds : List (Int × Str)) (x : Str) (x9 : Cx) : Prop :=
 ∀ (W : Tl r rest f) (o1 : ∀ p ∈ rest, p.1 ≠ ed) (o2 : ∀ p ∈ rest, p.1 ≠ i) (d1 : ev ≠ ed) (d2 : ev ≠ i) (d3 : ed ≠ i) (D : DatAll r vs (ds.map iD)) (h0 : 0 ≤ num) (h1 : num < 999999) (hvs : ds.length < 1000000), Does.at prog w mean mg mb 250 [.ref ev, .str x t] 2 16 ((ev, instObj 265 ed) :: (ed, dictOf (evD w.params k now tn q i er num tm) 5) :: (i, listOf vs.toArray ni) :: rest)
   (fun v news' => ∃ add t' tm' vs' ni', v = .str (aft num) t' ∧ New ((ev, instObj 265 ed) :: (ed, dictOf (evD w.params k now tn q i er num tm) 5) :: (i, listOf vs.toArray ni) :: rest) add ∧
    DatAll (add ++ r) vs' ((ds ++ [(num, x)]).map iD) ∧
    news' = (ev, instObj 265 ed) :: (ed, dictOf (evD w.params k now tn q i er (num + 1) tm') 5) :: (i, listOf vs'.toArray ni') :: f (add ++ r)) x9.1 x9.2.1 x9.2.2.1 x9.2.2.2.1 x9.2.2.2.2.1 x9.2.2.2.2.2.1 x9.2.2.2.2.2.2.1 x9.2.2.2.2.2.2.2.1 x9.2.2.2.2.2.2.2.2.1 x9.2.2.2.2.2.2.2.2.2.1 x9.2.2.2.2.2.2.2.2.2.2.1 x9.2.2.2.2.2.2.2.2.2.2.2.1 x9.2.2.2.2.2.2.2.2.2.2.2.2.1 x9.2.2.2.2.2.2.2.2.2.2.2.2.2.1 x9.2.2.2.2.2.2.2.2.2.2.2.2.2.2.1 x9.2.2.2.2.2.2.2.2.2.2.2.2.2.2.2.1 x9.2.2.2.2.2.2.2.2.2.2.2.2.2.2.2.2
noncomputable def P9 : T9 → Prop := cur fun prog => cur fun w => cur fun mean => cur fun mg => cur fun mb => cur fun rest => cur fun r => cur fun f => cur fun ev => cur fun ed => cur fun q => cur fun i => cur fun er => cur fun k => cur fun ni => cur fun now => cur fun num => cur fun tn => cur fun tm => cur fun t => cur fun vs => cur fun ds => cur fun x => fun x9 => S9 prog w mean mg mb rest r f ev ed q i er k ni now num tn tm t vs ds x x9
theorem ex9 : ∃ x, P9 x → ∀ y, P9 y := drinker P9 (PySem.Challenge.rw_np0139_01.prog, w0, default, default, default, default, default, default, default, default, default, default, default, default, default, default, default, default, default, default, default, default, default, cx0)
@[irreducible] def c9 : T9 := Classical.choose ex9
@[irreducible] def prog := c9.1
@[irreducible] def w := c9.2.1
@[irreducible] def mean := c9.2.2.1
@[irreducible] def mg := c9.2.2.2.1
@[irreducible] def mb := c9.2.2.2.2.1
@[irreducible] def rest := c9.2.2.2.2.2.1
@[irreducible] def r := c9.2.2.2.2.2.2.1
@[irreducible] def f := c9.2.2.2.2.2.2.2.1
@[irreducible] def ev := c9.2.2.2.2.2.2.2.2.1
@[irreducible] def ed := c9.2.2.2.2.2.2.2.2.2.1
@[irreducible] def q := c9.2.2.2.2.2.2.2.2.2.2.1
@[irreducible] def i := c9.2.2.2.2.2.2.2.2.2.2.2.1
@[irreducible] def er := c9.2.2.2.2.2.2.2.2.2.2.2.2.1
@[irreducible] def k := c9.2.2.2.2.2.2.2.2.2.2.2.2.2.1
@[irreducible] def ni := c9.2.2.2.2.2.2.2.2.2.2.2.2.2.2.1
@[irreducible] def now := c9.2.2.2.2.2.2.2.2.2.2.2.2.2.2.2.1
@[irreducible] def num := c9.2.2.2.2.2.2.2.2.2.2.2.2.2.2.2.2.1
@[irreducible] def tn := c9.2.2.2.2.2.2.2.2.2.2.2.2.2.2.2.2.2.1
@[irreducible] def tm := c9.2.2.2.2.2.2.2.2.2.2.2.2.2.2.2.2.2.2.1
@[irreducible] def t := c9.2.2.2.2.2.2.2.2.2.2.2.2.2.2.2.2.2.2.2.1
@[irreducible] def vs := c9.2.2.2.2.2.2.2.2.2.2.2.2.2.2.2.2.2.2.2.2.1
@[irreducible] def ds := c9.2.2.2.2.2.2.2.2.2.2.2.2.2.2.2.2.2.2.2.2.2.1
@[irreducible] def x := c9.2.2.2.2.2.2.2.2.2.2.2.2.2.2.2.2.2.2.2.2.2.2.1
@[irreducible] def x9 := c9.2.2.2.2.2.2.2.2.2.2.2.2.2.2.2.2.2.2.2.2.2.2.2
theorem core9 : S9 prog w mean mg mb rest r f ev ed q i er k ni now num tn tm t vs ds x x9 := by
 refine wr_z (by
 intro W o1 o2 d1 d2 d3 D h0 h1 hvs B F X T N hk hd hu hret
 have hl : vs.length < 1000000 := by rw [D.length, List.length_map]; exact hvs
 refine wpAny_call ?_
 k_dflt ktr_enter
 f_tup
 k_steps
 rename News _ _ _ _ => N9
 refine hret _ _ _ _ (by assumption) (fin_news [_, _, _] [_] W N9) ⟨_, _, _, _, _, by congr; w_how, new_lt (by tb_lt) (over_one (Nat.le_refl _)), ?_, rfl⟩
 simp only [List.concat_eq_append, List.map_append, List.map_cons, List.map_nil]
 exact (D.mono fun p hp => List.mem_append_right _ hp).append (.one (.tuple (List.mem_append_left _ (.head _)) (.cons (.int _ _) (.cons (.str _ _) .nil))))
 ) ?_
 intro q f
 simpa using f (default : (by exact Fin 1))

theorem ok9 : ∀ y, P9 y := Classical.choose_spec ex9 (by with_unfolding_all exact core9)
end when_idle_h
theorem when_idle_does {prog : Program} {w : World} {mean : ExcName → Option Value} {mg mb : Str → Option Value} {rest r : Led} {f : Led → Led}
  {ev ed q i er : Addr} {k : Nat → Tok} {ni : Nat} {now num : Int} {tn tm t : Tok} {vs : List Value} {ds : List (Int × Str)} {x : Str}
  (W : Tl r rest f) (o1 : ∀ p ∈ rest, p.1 ≠ ed) (o2 : ∀ p ∈ rest, p.1 ≠ i) (d1 : ev ≠ ed) (d2 : ev ≠ i) (d3 : ed ≠ i) (D : DatAll r vs (ds.map iD))
  (h0 : 0 ≤ num) (h1 : num < 999999) (hvs : ds.length < 1000000) :
  Does prog w mean mg mb 250 [.ref ev, .str x t] 2 16 ((ev, instObj 265 ed) :: (ed, dictOf (evD w.params k now tn q i er num tm) 5) :: (i, listOf vs.toArray ni) :: rest)
   (fun v news' => ∃ add t' tm' vs' ni', v = .str (aft num) t' ∧ New ((ev, instObj 265 ed) :: (ed, dictOf (evD w.params k now tn q i er num tm) 5) :: (i, listOf vs.toArray ni) :: rest) add ∧
    DatAll (add ++ r) vs' ((ds ++ [(num, x)]).map iD) ∧
    news' = (ev, instObj 265 ed) :: (ed, dictOf (evD w.params k now tn q i er (num + 1) tm') 5) :: (i, listOf vs'.toArray ni') :: f (add ++ r)) := by
 intros dp un gd cn cs a ccd cl outer A₀ base h₀ L m s Q E
 exact when_idle_h.ok9 (prog, w, mean, mg, mb, rest, r, f, ev, ed, q, i, er, k, ni, now, num, tn, tm, t, vs, ds, x, (dp, un, gd, cn, cs, a, ccd, cl, outer, A₀, base, h₀, L, m, s, Q, E)) W o1 o2 d1 d2 d3 D h0 h1 hvs
end
theorem In_C2.in_C2 : True := trivial
noncomputable section
open In_C2
namespace after_h
noncomputable abbrev T9 : Type := Program × World × (ExcName → Option Value) × (Str → Option Value) × (Str → Option Value) × Led × Led × (Led → Led) × Addr × Addr × Addr × Addr × Addr × (Nat → Tok) × Nat × Int × Int × Int × Tok × Tok × Tok × Tok × List Value × List (Int × Int × Str) × Str × Cx
noncomputable def S9 (prog : Program) (w : World) (mean : ExcName → Option Value) (mg : Str → Option Value) (mb : Str → Option Value) (rest : Led) (r : Led) (f : Led → Led) (ev : Addr) (ed : Addr) (q : Addr) (i : Addr) (er : Addr) (k : Nat → Tok) (nq : Nat) (now : Int) (num : Int) (ms : Int) (tn : Tok) (tm : Tok) (t : Tok) (t0 : Tok) (vs : List Value) (ds : List (Int × Int × Str)) (x : Str) (x9 : Cx) : Prop :=
 ∀ (W : Tl r rest f) (o1 : ∀ p ∈ rest, p.1 ≠ ed) (o2 : ∀ p ∈ rest, p.1 ≠ q) (d1 : ev ≠ ed) (d2 : ev ≠ q) (d3 : ed ≠ q) (D : DatAll r vs (ds.map tD)) (h0 : 0 ≤ num) (h1 : num < 999999) (hvs : ds.length < 1000000), Does.at prog w mean mg mb 243 [.ref ev, .int ms t0, .str x t] 2 16 ((ev, instObj 265 ed) :: (ed, dictOf (evD w.params k now tn q i er num tm) 5) :: (q, listOf vs.toArray nq) :: rest)
   (fun v news' => ∃ add t' tm' vs' nq' c, v = .str (aft num) t' ∧ New ((ev, instObj 265 ed) :: (ed, dictOf (evD w.params k now tn q i er num tm) 5) :: (q, listOf vs.toArray nq) :: rest) add ∧
    c ≤ ds.length ∧ (∀ (j : Nat) (hj : j < ds.length), c ≤ j → now + ms < (ds[j]).1) ∧ (∀ (j : Nat) (hj : j < ds.length), j + 1 = c → (ds[j]).1 ≤ now + ms) ∧
    DatAll (add ++ r) vs' ((ds.take c ++ (now + ms, num, x) :: ds.drop c).map tD) ∧
    news' = (ev, instObj 265 ed) :: (ed, dictOf (evD w.params k now tn q i er (num + 1) tm') 5) :: (q, listOf vs'.toArray nq') :: f (add ++ r)) x9.1 x9.2.1 x9.2.2.1 x9.2.2.2.1 x9.2.2.2.2.1 x9.2.2.2.2.2.1 x9.2.2.2.2.2.2.1 x9.2.2.2.2.2.2.2.1 x9.2.2.2.2.2.2.2.2.1 x9.2.2.2.2.2.2.2.2.2.1 x9.2.2.2.2.2.2.2.2.2.2.1 x9.2.2.2.2.2.2.2.2.2.2.2.1 x9.2.2.2.2.2.2.2.2.2.2.2.2.1 x9.2.2.2.2.2.2.2.2.2.2.2.2.2.1 x9.2.2.2.2.2.2.2.2.2.2.2.2.2.2.1 x9.2.2.2.2.2.2.2.2.2.2.2.2.2.2.2.1 x9.2.2.2.2.2.2.2.2.2.2.2.2.2.2.2.2
noncomputable def P9 : T9 → Prop := cur fun prog => cur fun w => cur fun mean => cur fun mg => cur fun mb => cur fun rest => cur fun r => cur fun f => cur fun ev => cur fun ed => cur fun q => cur fun i => cur fun er => cur fun k => cur fun nq => cur fun now => cur fun num => cur fun ms => cur fun tn => cur fun tm => cur fun t => cur fun t0 => cur fun vs => cur fun ds => cur fun x => fun x9 => S9 prog w mean mg mb rest r f ev ed q i er k nq now num ms tn tm t t0 vs ds x x9
theorem ex9 : ∃ x, P9 x → ∀ y, P9 y := drinker P9 (PySem.Challenge.rw_np0139_01.prog, w0, default, default, default, default, default, default, default, default, default, default, default, default, default, default, default, default, default, default, default, default, default, default, default, cx0)
@[irreducible] def c9 : T9 := Classical.choose ex9
@[irreducible] def prog := c9.1
@[irreducible] def w := c9.2.1
@[irreducible] def mean := c9.2.2.1
@[irreducible] def mg := c9.2.2.2.1
@[irreducible] def mb := c9.2.2.2.2.1
@[irreducible] def rest := c9.2.2.2.2.2.1
@[irreducible] def r := c9.2.2.2.2.2.2.1
@[irreducible] def f := c9.2.2.2.2.2.2.2.1
@[irreducible] def ev := c9.2.2.2.2.2.2.2.2.1
@[irreducible] def ed := c9.2.2.2.2.2.2.2.2.2.1
@[irreducible] def q := c9.2.2.2.2.2.2.2.2.2.2.1
@[irreducible] def i := c9.2.2.2.2.2.2.2.2.2.2.2.1
@[irreducible] def er := c9.2.2.2.2.2.2.2.2.2.2.2.2.1
@[irreducible] def k := c9.2.2.2.2.2.2.2.2.2.2.2.2.2.1
@[irreducible] def nq := c9.2.2.2.2.2.2.2.2.2.2.2.2.2.2.1
@[irreducible] def now := c9.2.2.2.2.2.2.2.2.2.2.2.2.2.2.2.1
@[irreducible] def num := c9.2.2.2.2.2.2.2.2.2.2.2.2.2.2.2.2.1
@[irreducible] def ms := c9.2.2.2.2.2.2.2.2.2.2.2.2.2.2.2.2.2.1
@[irreducible] def tn := c9.2.2.2.2.2.2.2.2.2.2.2.2.2.2.2.2.2.2.1
@[irreducible] def tm := c9.2.2.2.2.2.2.2.2.2.2.2.2.2.2.2.2.2.2.2.1
@[irreducible] def t := c9.2.2.2.2.2.2.2.2.2.2.2.2.2.2.2.2.2.2.2.2.1
@[irreducible] def t0 := c9.2.2.2.2.2.2.2.2.2.2.2.2.2.2.2.2.2.2.2.2.2.1
@[irreducible] def vs := c9.2.2.2.2.2.2.2.2.2.2.2.2.2.2.2.2.2.2.2.2.2.2.1
@[irreducible] def ds := c9.2.2.2.2.2.2.2.2.2.2.2.2.2.2.2.2.2.2.2.2.2.2.2.1
@[irreducible] def x := c9.2.2.2.2.2.2.2.2.2.2.2.2.2.2.2.2.2.2.2.2.2.2.2.2.1
@[irreducible] def x9 := c9.2.2.2.2.2.2.2.2.2.2.2.2.2.2.2.2.2.2.2.2.2.2.2.2.2
theorem core9 : S9 prog w mean mg mb rest r f ev ed q i er k nq now num ms tn tm t t0 vs ds x x9 := by
 refine wr_z (by
 intro W o1 o2 d1 d2 d3 D h0 h1 hvs B F X T N hk hd hu hret
 have hl : vs.length = ds.length := by rw [D.length, List.length_map]
 have hsub : ∀ p ∈ r, p ∈ rest := W.sub
 refine wpAny_call ?_
 k_dflt ktr_enter
 k_with "exec While BoolOp cons nil" => ((fail_if_success (fail_if_success (have h9 := in_C2))); ((refine Stop.out ?_)))
 f_tup
 k_steps
 refine Stop.mk ?_
 f_tup
 rename Fr _ _ _ _ => F9
 rename News _ _ _ _ => N9
 with_unfolding_all refine While_one (x := Str.ofString "at") (fun c => 0 ≤ c ∧ c ≤ ds.length ∧ ∀ (j : Nat) (hj : j < ds.length), c ≤ j → now + ms < (ds[j]).1) (fun c => c.toNat) F9 N9 rfl ⟨by w_how, by w_how, fun j hj hc => by w_how⟩ ?_
 intro c tc h₁ tk₁ hp F8 N8
 f_tup
 (revert hp; km_mul hp0; km_mul hp1; intro hp2)
 have hkx : ∃ ka kb kx, 0 < c → ds[(c - 1).toNat]? = some (ka, kb, kx) := by
  by_cases h : 0 < c
  ·exact ⟨_, _, _, fun _ => List.getElem?_eq_getElem (show (c - 1).toNat < ds.length by w_how)⟩
  ·exact ⟨0, 0, Str.ofString "", fun h' => absurd h' h⟩
 f_tup
 (revert hkx; km_mul ka; km_mul kb; km_mul kx; intro hkt)
 k_with "my hk" => exact hkt (by w_how)
 clear F9 N9
 f_tup
 k_steps
 ·refine WhileOne.intro (by assumption) (by assumption) (by with_unfolding_all rfl) (fun y hy => by simp only [if_neg hy]) ⟨by w_how, by w_how, fun j hj hc => ?_⟩ (by w_how)
  by_cases hj2 : c ≤ j
  ·exact hp2 j hj hj2
  ·have e : (c - 1).toNat = j := by w_how
   subst e
   rw [Option.some.inj ((List.getElem?_eq_getElem hj).symm.trans (hkt (by w_how)))]
   assumption
 all_goals
  rename News _ _ _ _ => N9
  refine hret _ _ _ _ (by assumption) (fin_news [_, _, _] [_] W N9) ⟨_, _, _, _, _, c.toNat, by congr; w_how, new_lt (by tb_lt) (over_one (Nat.le_refl _)), by w_how, fun j hj hc => hp2 j hj (by w_how), fun j hj hc => ?_, dat_insert D (.head _), rfl⟩
 ·have e : (c - 1).toNat = j := by w_how
  subst e
  rw [Option.some.inj ((List.getElem?_eq_getElem hj).symm.trans (hkt (by w_how)))]
  exact Int.not_lt.mp (by assumption)
 ·w_how
 ) ?_
 intro q f
 simpa using f (default : (by exact Fin 1))

theorem ok9 : ∀ y, P9 y := Classical.choose_spec ex9 (by with_unfolding_all exact core9)
end after_h
theorem after_does {prog : Program} {w : World} {mean : ExcName → Option Value} {mg mb : Str → Option Value} {rest r : Led} {f : Led → Led}
  {ev ed q i er : Addr} {k : Nat → Tok} {nq : Nat} {now num ms : Int} {tn tm t t0 : Tok} {vs : List Value} {ds : List (Int × Int × Str)} {x : Str}
  (W : Tl r rest f) (o1 : ∀ p ∈ rest, p.1 ≠ ed) (o2 : ∀ p ∈ rest, p.1 ≠ q) (d1 : ev ≠ ed) (d2 : ev ≠ q) (d3 : ed ≠ q) (D : DatAll r vs (ds.map tD))
  (h0 : 0 ≤ num) (h1 : num < 999999) (hvs : ds.length < 1000000) :
  Does prog w mean mg mb 243 [.ref ev, .int ms t0, .str x t] 2 16 ((ev, instObj 265 ed) :: (ed, dictOf (evD w.params k now tn q i er num tm) 5) :: (q, listOf vs.toArray nq) :: rest)
   (fun v news' => ∃ add t' tm' vs' nq' c, v = .str (aft num) t' ∧ New ((ev, instObj 265 ed) :: (ed, dictOf (evD w.params k now tn q i er num tm) 5) :: (q, listOf vs.toArray nq) :: rest) add ∧
    c ≤ ds.length ∧ (∀ (j : Nat) (hj : j < ds.length), c ≤ j → now + ms < (ds[j]).1) ∧ (∀ (j : Nat) (hj : j < ds.length), j + 1 = c → (ds[j]).1 ≤ now + ms) ∧
    DatAll (add ++ r) vs' ((ds.take c ++ (now + ms, num, x) :: ds.drop c).map tD) ∧
    news' = (ev, instObj 265 ed) :: (ed, dictOf (evD w.params k now tn q i er (num + 1) tm') 5) :: (q, listOf vs'.toArray nq') :: f (add ++ r)) := by
 intros dp un gd cn cs a ccd cl outer A₀ base h₀ L m s Q E
 exact after_h.ok9 (prog, w, mean, mg, mb, rest, r, f, ev, ed, q, i, er, k, nq, now, num, ms, tn, tm, t, t0, vs, ds, x, (dp, un, gd, cn, cs, a, ccd, cl, outer, A₀, base, h₀, L, m, s, Q, E)) W o1 o2 d1 d2 d3 D h0 h1 hvs
end
theorem In_C3.in_C3 : True := trivial
noncomputable section
open In_C3
namespace all_events_h
noncomputable abbrev T9 : Type := Program × World × (ExcName → Option Value) × (Str → Option Value) × (Str → Option Value) × Led × Led × (Led → Led) × Addr × Addr × Addr × Addr × Addr × (Nat → Tok) × Nat × Nat × Int × Int × Tok × Tok × List Value × List Value × List (Int × Int × Str) × List (Int × Str) × Cx
noncomputable def S9 (prog : Program) (w : World) (mean : ExcName → Option Value) (mg : Str → Option Value) (mb : Str → Option Value) (rest : Led) (r : Led) (f : Led → Led) (ev : Addr) (ed : Addr) (q : Addr) (i : Addr) (er : Addr) (k : Nat → Tok) (nq : Nat) (ni : Nat) (now : Int) (num : Int) (tn : Tok) (tm : Tok) (qs : List Value) (is : List Value) (ds : List (Int × Int × Str)) (es : List (Int × Str)) (x9 : Cx) : Prop :=
 ∀ (W : Tl r rest f) (D : DatAll r qs (ds.map tD)) (D2 : DatAll r is (es.map iD)) (hvs : ds.length + es.length < 60) (hnd : (ds.map (·.2.1) ++ es.map (·.1)).Nodup), Does.at prog w mean mg mb 207 [.ref ev] 2 16 ((ev, instObj 265 ed) :: (ed, dictOf (evD w.params k now tn q i er num tm) 5) :: (q, listOf qs.toArray nq) :: (i, listOf is.toArray ni) :: rest)
   (fun v news' => ∃ (add : Led) (D : Addr) (ys : List Value) (c : Nat) (l : List (Int × Dat)), v = .ref D ∧ New ((ev, instObj 265 ed) :: (ed, dictOf (evD w.params k now tn q i er num tm) 5) :: (q, listOf qs.toArray nq) :: (i, listOf is.toArray ni) :: rest) add ∧
    (D, listOf ys.toArray c) ∈ add ∧ DatAll add ys (l.map (·.2)) ∧ l.Perm (allE ds es) ∧ l.Pairwise (fun a b => b.1 ≤ a.1) ∧
    news' = (ev, instObj 265 ed) :: (ed, dictOf (evD w.params k now tn q i er num tm) 5) :: (q, listOf qs.toArray nq) :: (i, listOf is.toArray ni) :: f (add ++ r)) x9.1 x9.2.1 x9.2.2.1 x9.2.2.2.1 x9.2.2.2.2.1 x9.2.2.2.2.2.1 x9.2.2.2.2.2.2.1 x9.2.2.2.2.2.2.2.1 x9.2.2.2.2.2.2.2.2.1 x9.2.2.2.2.2.2.2.2.2.1 x9.2.2.2.2.2.2.2.2.2.2.1 x9.2.2.2.2.2.2.2.2.2.2.2.1 x9.2.2.2.2.2.2.2.2.2.2.2.2.1 x9.2.2.2.2.2.2.2.2.2.2.2.2.2.1 x9.2.2.2.2.2.2.2.2.2.2.2.2.2.2.1 x9.2.2.2.2.2.2.2.2.2.2.2.2.2.2.2.1 x9.2.2.2.2.2.2.2.2.2.2.2.2.2.2.2.2
noncomputable def P9 : T9 → Prop := cur fun prog => cur fun w => cur fun mean => cur fun mg => cur fun mb => cur fun rest => cur fun r => cur fun f => cur fun ev => cur fun ed => cur fun q => cur fun i => cur fun er => cur fun k => cur fun nq => cur fun ni => cur fun now => cur fun num => cur fun tn => cur fun tm => cur fun qs => cur fun is => cur fun ds => cur fun es => fun x9 => S9 prog w mean mg mb rest r f ev ed q i er k nq ni now num tn tm qs is ds es x9
theorem ex9 : ∃ x, P9 x → ∀ y, P9 y := drinker P9 (PySem.Challenge.rw_np0139_01.prog, w0, default, default, default, default, default, default, default, default, default, default, default, default, default, default, default, default, default, default, default, default, default, default, cx0)
@[irreducible] def c9 : T9 := Classical.choose ex9
@[irreducible] def prog := c9.1
@[irreducible] def w := c9.2.1
@[irreducible] def mean := c9.2.2.1
@[irreducible] def mg := c9.2.2.2.1
@[irreducible] def mb := c9.2.2.2.2.1
@[irreducible] def rest := c9.2.2.2.2.2.1
@[irreducible] def r := c9.2.2.2.2.2.2.1
@[irreducible] def f := c9.2.2.2.2.2.2.2.1
@[irreducible] def ev := c9.2.2.2.2.2.2.2.2.1
@[irreducible] def ed := c9.2.2.2.2.2.2.2.2.2.1
@[irreducible] def q := c9.2.2.2.2.2.2.2.2.2.2.1
@[irreducible] def i := c9.2.2.2.2.2.2.2.2.2.2.2.1
@[irreducible] def er := c9.2.2.2.2.2.2.2.2.2.2.2.2.1
@[irreducible] def k := c9.2.2.2.2.2.2.2.2.2.2.2.2.2.1
@[irreducible] def nq := c9.2.2.2.2.2.2.2.2.2.2.2.2.2.2.1
@[irreducible] def ni := c9.2.2.2.2.2.2.2.2.2.2.2.2.2.2.2.1
@[irreducible] def now := c9.2.2.2.2.2.2.2.2.2.2.2.2.2.2.2.2.1
@[irreducible] def num := c9.2.2.2.2.2.2.2.2.2.2.2.2.2.2.2.2.2.1
@[irreducible] def tn := c9.2.2.2.2.2.2.2.2.2.2.2.2.2.2.2.2.2.2.1
@[irreducible] def tm := c9.2.2.2.2.2.2.2.2.2.2.2.2.2.2.2.2.2.2.2.1
@[irreducible] def qs := c9.2.2.2.2.2.2.2.2.2.2.2.2.2.2.2.2.2.2.2.2.1
@[irreducible] def is := c9.2.2.2.2.2.2.2.2.2.2.2.2.2.2.2.2.2.2.2.2.2.1
@[irreducible] def ds := c9.2.2.2.2.2.2.2.2.2.2.2.2.2.2.2.2.2.2.2.2.2.2.1
@[irreducible] def es := c9.2.2.2.2.2.2.2.2.2.2.2.2.2.2.2.2.2.2.2.2.2.2.2.1
@[irreducible] def x9 := c9.2.2.2.2.2.2.2.2.2.2.2.2.2.2.2.2.2.2.2.2.2.2.2.2
theorem core9 : S9 prog w mean mg mb rest r f ev ed q i er k nq ni now num tn tm qs is ds es x9 := by
 refine wr_z (by
 intro W D D2 hvs hnd B F X T N hk hd hu hret
 have hl : qs.length = ds.length := by rw [D.length, List.length_map]
 have hl2 : is.length = es.length := by rw [D2.length, List.length_map]
 have hsub : ∀ p ∈ r, p ∈ rest := W.sub
 refine wpAny_call ?_
 k_dflt ktr_enter
 k_with "my pyIter ref" => ((fail_if_success (fail_if_success (have h9 := in_C3))); ((refine Stop.out ?_)))
 f_tup
 k_steps
 refine Stop.mk ?_
 f_tup
 rename News _ _ _ _ => N9
 rename Fr _ _ _ _ => F9
 rename Obj.IsDictOf (intKind prog w) _ _ => hd9
 change News ?g9 ?L9 _ ((?fd, ?of) :: (_, ?oc) :: _) at N9
 (try (with_reducible refine unw (by assumption) ?_))
 refine loopT tD (fun c : Obj × List (Int × Value) => [(?fd, c.1), (?L9 + 1, ?oc), (ev, instObj 265 ed), (ed, dictOf (evD w.params k now tn q i er num tm) 5), (q, listOf qs.toArray nq), (i, listOf is.toArray ni)])
  [?fd, ?L9 + 1, ev, ed, q, i] rest (fun pre tl c => c.1.IsDictOf (intKind prog w) c.2 ∧ KvsAre tl c.2 (pre.map fun t => (t.2.1, eD (Str.ofString "timer") (t.2.1, t.2.2))) ∧ Over (?fd + 1) tl) (c₀ := (?of, []))
  (fun _ => rfl) (fun _ => by k_mem) D rfl F9 N9 ⟨hd9, ⟨rfl, .nil⟩, over_nil⟩ ?_ ?_
 ·intro pre
  (km_mul tt; km_mul tn'; intro tx)
  intro post v
  (km_mul o; intro kvs)
  intro tl h9 tk9 own hds hv
  (km_mul hdo; k_extra "st"; km_mul hk1; intro hk2; intro hov)
  intro hown F8 N8
  f_tup
  clear hd9 N9 F9
  f_tup
  (refine arr ?_ (tD_inv hv); km_mul z; km_mul cz; km_mul t1; km_mul t2; km_mul t3; k_extra "st"; k_extra "sr"; intro hz)
  have hz' := hsub _ hz
  have oo := hown ?fd (by first | k_mem | simp)
  dsimp only [List.cons_append, List.nil_append] at N8
  have hkl : kvs.length ≤ sizeLine := by
   have e1 : kvs.length = pre.length := by simpa using congrArg List.length hk1
   have e2 : pre.length ≤ ds.length := by rw [hds]; simp
   rw [sizeLine_eq]; w_how
  dsimp only at hdo
  f_tup
  k_steps
  have hfresh : tn' ∉ (pre.map fun t => (t.2.1, eD (Str.ofString "timer") (t.2.1, t.2.2))).map (·.1) := by
   rw [hds] at hnd
   simp only [List.map_append, List.map_cons, List.append_assoc, List.map_map, Function.comp_def] at hnd ⊢
   intro hm
   exact (List.nodup_append.mp hnd).2.2 _ hm _ (by first | k_mem | simp) rfl
  rename News _ _ _ _ => N7
  change News _ _ _ ((?z2a, ?oza) :: _) at N7
  refine TPost.next (_, stored kvs tn' (.ref ?z2a)) [(?z2a, ?oza)] (by assumption) N7 (fun y hy => by simp only [if_neg hy]) (by dsimp only [List.cons_append, List.nil_append]; kqd_sub) ?_ ⟨by assumption, ?_, over_app (over_one (lt_get (by assumption) (by k_mem))) hov⟩
  ·intro p hp q hq
   rw [List.mem_singleton.mp hp]
   exact Nat.ne_of_lt (lt_mem (by assumption) (by k_mem))
  ·rw [List.map_append]
   exact kvs_snoc ⟨hk1, hk2⟩ hfresh (eD_in (.head _))
 (km_mul o2; intro kvs2)
 intro tl2 u2 h2 tk2
 (km_mul hdo2; km_mul hkv2; intro hov2)
 intro F2 N2
 f_tup
 clear N9 F9 hd9
 dsimp only [List.cons_append, List.nil_append] at N2 hdo2 hkv2
 f_tup
 k_steps
 refine Stop.mk ?_
 f_tup
 rename News _ _ _ _ => N9
 rename Fr _ _ _ _ => F9
 (try (with_reducible refine unw (by assumption) ?_))
 refine loopT iD (fun c : Obj × List (Int × Value) => [(?fd, c.1), (?L9 + 1, ?oc), (ev, instObj 265 ed), (ed, dictOf (evD w.params k now tn q i er num tm) 5), (q, listOf qs.toArray nq), (i, listOf is.toArray ni)])
  [?fd, ?L9 + 1, ev, ed, q, i] (tl2 ++ rest) (fun pre tl c => c.1.IsDictOf (intKind prog w) c.2 ∧ KvsAre (tl ++ tl2) c.2 ((ds.map fun t => (t.2.1, eD (Str.ofString "timer") (t.2.1, t.2.2))) ++ pre.map fun t => (t.1, eD (Str.ofString "idle") t)) ∧ Over (?fd + 1) tl) (c₀ := (o2, kvs2))
  (fun _ => rfl) (fun _ => by k_mem) D2 rfl F9 N9 ⟨hdo2, by simpa using hkv2, over_nil⟩ ?_ ?_
 ·intro pre
  (km_mul tn'; intro tx)
  intro post v
  (km_mul o; intro kvs)
  intro tl h9 tk9 own hds hv
  (km_mul hdo; k_extra "st"; km_mul hk1; intro hk2; intro hov)
  intro hown F8 N8
  f_tup
  clear hdo2 hkv2 N9 F9
  f_tup
  (refine arr ?_ (iD_inv hv); km_mul z; km_mul cz; km_mul t1; km_mul t2; k_extra "st"; k_extra "sr"; intro hz)
  have hz' := hsub _ hz
  have oo := hown ?fd (by first | k_mem | simp)
  dsimp only [List.cons_append, List.nil_append] at N8
  have hkl : kvs.length ≤ sizeLine := by
   have e1 : kvs.length = ds.length + pre.length := by simpa using congrArg List.length hk1
   have e2 : pre.length ≤ es.length := by rw [hds]; simp
   rw [sizeLine_eq]; w_how
  dsimp only at hdo
  f_tup
  k_steps
  have hfresh : tn' ∉ (((ds.map fun t => (t.2.1, eD (Str.ofString "timer") (t.2.1, t.2.2))) ++ pre.map fun t => (t.1, eD (Str.ofString "idle") t))).map (·.1) := by
   rw [hds] at hnd
   simp only [List.map_append, List.map_cons, ← List.append_assoc, List.map_map, Function.comp_def] at hnd ⊢
   intro hm
   exact (List.nodup_append.mp hnd).2.2 _ hm _ (by first | k_mem | simp) rfl
  rename News _ _ _ _ => N7
  change News _ _ _ ((?z2b, ?ozb) :: _) at N7
  refine TPost.next (_, stored kvs tn' (.ref ?z2b)) [(?z2b, ?ozb)] (by assumption) N7 (fun y hy => by simp only [if_neg hy]) (by dsimp only [List.cons_append, List.nil_append]; kqd_sub) ?_ ⟨by assumption, ?_, over_app (over_one (lt_get (by assumption) (by k_mem))) hov⟩
  ·intro p hp q hq
   rw [List.mem_singleton.mp hp]
   exact Nat.ne_of_lt (lt_mem (by assumption) (by k_mem))
  ·rw [List.map_append, ← List.append_assoc, List.append_assoc]
   exact kvs_snoc ⟨hk1, hk2⟩ hfresh (eD_in (.head _))
 (km_mul o3; intro kvs3)
 intro tl3 u3 h3 tk3
 (km_mul hdo3; km_mul hkv3; intro hov3)
 intro F3 N3
 f_tup
 clear N9 F9 hdo2 hkv2
 dsimp only [List.cons_append, List.nil_append] at N3 hdo3 hkv3
 have hnd3 : ((allE ds es).map (·.1)).Nodup := by rw [allE_keys]; exact hnd
 have hkl3 : kvs3.length < 60 := by have := kvs_len hkv3; simp at this; w_how
 k_with "CompSrc" => ((fail_if_success (fail_if_success (have h9 := in_C3))); ((refine Stop.out ?_)))
 f_tup
 k_steps
 refine Stop.mk ?_
 f_tup
 rename IntsAre _ _ => hi9
 rename List.Perm _ _ => hp9
 rename List.Pairwise _ _ => ho9
 rename News _ _ _ _ => N9
 rename Fr _ _ _ _ => F9
 have hal : (ds.map fun t => (t.2.1, eD (Str.ofString "timer") (t.2.1, t.2.2))) ++ (es.map fun t => (t.1, eD (Str.ofString "idle") t)) = allE ds es := rfl
 rw [hal] at hkv3
 change IntsAre ?vs9 ?ns9 at hi9
 have hlen9 := hp9.length_eq
 rw [List.length_map] at hlen9
 have hlv := hi9.length
 k_with "CompEnd" => ((fail_if_success (fail_if_success (have h9 := in_C3))); ((refine Stop.out ?_)))
 refine LCg.CompSrc.ledger rfl F9 N9 (List.Mem.head _) (by rw [List.size_toArray, sizeLine_eq]; w_how) ?_
 intro g
 refine my_comp (fun i ys nw => nw = _ ∧ DatAll (tl3 ++ tl2) ys (((?ns9).take i).map (getE (allE ds es)))) ⟨rfl, .nil⟩ ?_ ?_
 ·intro i' ys nw v I oI C oC Dl m₂ hh tkk E' hi'
  (k_extra "st"; k_extra "sr"; intro hys)
  intro hPv hC hx F6 N6 off6 ne6
  f_tup
  f_tup
  (refine arr ?_ (IntsAre.at hi9 i' v (by simpa using hPv)); km_mul kk; km_mul tk'; k_extra "st"; k_extra "sr"; intro hkk)
  have hkm : kk ∈ (allE ds es).map (·.1) := by
   rw [← hkv3.1]
   exact hp9.mem_iff.mp (List.mem_of_getElem? hkk)
  f_tup
  (refine arr ?_ (valueAt_get hkv3 hnd3 hkm); km_mul v'; km_mul dd; km_mul hdm; km_mul hval; intro hdat)
  clear N9 F9
  f_tup
  k_steps
  refine Stop.mk ?_
  f_tup
  rename News _ _ _ _ => N7
  refine LCg.CompEnd.intro (by assumption) N7 _ (fun p hp => hp) off6 (Or.inr ⟨_, List.Mem.head _, rfl, _, rfl⟩) ⟨rfl, ?_⟩
  rw [List.take_add_one, hkk]
  simp only [Option.toList_some, List.map_append, List.map_cons, List.map_nil]
  rw [getE_mem hnd3 hdm]
  exact hys.append (.one hdat)
 ·intro ys nw
  (k_extra "st"; k_extra "sr"; intro hys)
  f_tup
  rw [show (?vs9).toArray.size = (?ns9).length by rw [List.size_toArray, hi9.length], List.take_length] at hys
  have hly : ys.length = (?ns9).length := by rw [hys.length, List.length_map]
  f_tup
  k_steps
  rename News _ _ _ _ => N8
  change News _ _ _ ((?D7, _) :: _) at N8
  refine hret _ _ _ _ (by assumption) (fin_news [_, _, _, _] ((?D7, listOf ys.reverse.toArray ys.length) :: (tl3 ++ tl2)) W (fun p hp => N8 p ?_))
   ⟨_, ?D7, ys.reverse, ys.length, ((?ns9).map fun k => (k, getE (allE ds es) k)).reverse, rfl, new_cons ?_ (new_app (new_lt (B := ?fd) ?_ (over_le hov3 (Nat.le_succ _))) (new_lt (B := ?fd) ?_ (over_le hov2 (Nat.le_succ _)))), .head _, ?_, ?_, ?_, rfl⟩
  ·revert p hp
   dsimp only [List.cons_append, List.nil_append]
   kqd_sub
  ·k_all
  ·tb_lt
  ·tb_lt
  ·rw [List.map_reverse, List.map_map]
   have hys' := hys.mono (news' := (?D7, listOf ys.reverse.toArray ys.length) :: (tl3 ++ tl2)) (fun p hp => .tail _ hp)
   exact dat_reverse hys'
  ·exact (List.reverse_perm _).trans (getE_perm hnd3 (by rw [← hkv3.1]; exact hp9))
  ·rw [List.pairwise_reverse, List.pairwise_map]
   exact ho9
 ) ?_
 intro q f
 simpa using f (default : (by exact Fin 1))

theorem ok9 : ∀ y, P9 y := Classical.choose_spec ex9 (by with_unfolding_all exact core9)
end all_events_h
theorem all_events_does {prog : Program} {w : World} {mean : ExcName → Option Value} {mg mb : Str → Option Value} {rest r : Led} {f : Led → Led}
  {ev ed q i er : Addr} {k : Nat → Tok} {nq ni : Nat} {now num : Int} {tn tm : Tok} {qs is : List Value} {ds : List (Int × Int × Str)} {es : List (Int × Str)}
  (W : Tl r rest f) (D : DatAll r qs (ds.map tD)) (D2 : DatAll r is (es.map iD)) (hvs : ds.length + es.length < 60) (hnd : (ds.map (·.2.1) ++ es.map (·.1)).Nodup) :
  Does prog w mean mg mb 207 [.ref ev] 2 16 ((ev, instObj 265 ed) :: (ed, dictOf (evD w.params k now tn q i er num tm) 5) :: (q, listOf qs.toArray nq) :: (i, listOf is.toArray ni) :: rest)
   (fun v news' => ∃ (add : Led) (D : Addr) (ys : List Value) (c : Nat) (l : List (Int × Dat)), v = .ref D ∧ New ((ev, instObj 265 ed) :: (ed, dictOf (evD w.params k now tn q i er num tm) 5) :: (q, listOf qs.toArray nq) :: (i, listOf is.toArray ni) :: rest) add ∧
    (D, listOf ys.toArray c) ∈ add ∧ DatAll add ys (l.map (·.2)) ∧ l.Perm (allE ds es) ∧ l.Pairwise (fun a b => b.1 ≤ a.1) ∧
    news' = (ev, instObj 265 ed) :: (ed, dictOf (evD w.params k now tn q i er num tm) 5) :: (q, listOf qs.toArray nq) :: (i, listOf is.toArray ni) :: f (add ++ r)) := by
 intros dp un gd cn cs a ccd cl outer A₀ base h₀ L m s Q E
 exact all_events_h.ok9 (prog, w, mean, mg, mb, rest, r, f, ev, ed, q, i, er, k, nq, ni, now, num, tn, tm, qs, is, ds, es, (dp, un, gd, cn, cs, a, ccd, cl, outer, A₀, base, h₀, L, m, s, Q, E)) W D D2 hvs hnd
end
theorem In_C4.in_C4 : True := trivial
noncomputable section
open In_C4
noncomputable def allR (ds : List (Int × Int × Str)) (es : List (Int × Str)) : List (Int × Str × Str) := (ds.map fun t => (t.2.1, t.2.2, Str.ofString "timer")) ++ es.map fun t => (t.1, t.2, Str.ofString "idle")
noncomputable def rD (t : Int × Str × Str) : Dat := eD t.2.2 (t.1, t.2.1)
theorem allR_E (ds : List (Int × Int × Str)) (es : List (Int × Str)) : allE ds es = (allR ds es).map fun t => (t.1, rD t) := by
 simp [allE, allR, rD, Function.comp_def]
theorem perm_unmap {α β : Type} (g : α → β) {l m : List β} (hp : l.Perm m) : ∀ {a : List α}, m = a.map g → ∃ l' : List α, l'.Perm a ∧ l = l'.map g := by
 induction hp with
 |nil => intros a e; exact ⟨a, .refl _, by rw [← e]⟩
 |cons x _ ih =>
  intros a e
  cases a with
  |nil => cases e
  |cons y a =>
   simp only [List.map_cons, List.cons.injEq] at e
   obtain ⟨l', h1, h2⟩ := ih e.2
   exact ⟨y :: l', h1.cons _, by rw [List.map_cons, e.1, h2]⟩
 |swap x y l =>
  intros a e
  match a, e with
  |y' :: x' :: a, e =>
   simp only [List.map_cons, List.cons.injEq] at e
   obtain ⟨e1, e2, e3⟩ := e
   exact ⟨x' :: y' :: a, .swap _ _ _, by simp [e1, e2, e3]⟩
 |trans _ _ ih1 ih2 =>
  intros a e
  obtain ⟨l2, h1, h2⟩ := ih2 e
  obtain ⟨l3, h3, h4⟩ := ih1 h2
  exact ⟨l3, h3.trans h1, h4⟩
theorem rD_inv {r : Led} {v : Value} {t : Int × Str × Str} (h : DatIn r v (rD t)) : ∃ z n t1 t2 t3, v = .ref z ∧ (z, tupO [.int t.1 t1, .str t.2.1 t2, .str t.2.2 t3] n) ∈ r := by
 obtain ⟨z, n, x, y, w, hv, hm, h1, h2, h3⟩ := tup3_inv h
 obtain ⟨t1, rfl⟩ := int_inv h1
 obtain ⟨t2, rfl⟩ := str_inv h2
 obtain ⟨t3, rfl⟩ := str_inv h3
 exact ⟨z, n, t1, t2, t3, hv, hm⟩

theorem rows_max {rows pre post : List (Int × Str × Str)} {k1 : Int} {x1 kd1 : Str} {P : Int × Str × Str → Prop} (hol : List.Pairwise (fun a b => b.1 ≤ a.1) (rows.map fun t => (t.1, rD t))) (hds : rows = pre ++ (k1, x1, kd1) :: post) (hpre : ∀ a ∈ pre, ¬ P a)
  {b : Int × Str × Str} (hb : b ∈ rows) (hbx : P b) : b.1 ≤ k1 := by
 subst hds
 rcases List.mem_append.mp hb with hb | hb
 ·exact absurd hbx (hpre b hb)
 rw [List.pairwise_map] at hol
 have h2 := (List.pairwise_append.mp hol).2.1
 rcases List.mem_cons.mp hb with rfl | hb
 ·exact Int.le_refl _
 ·exact (List.pairwise_cons.mp h2).1 b hb
namespace event_of_h
noncomputable abbrev T9 : Type := Program × World × (ExcName → Option Value) × (Str → Option Value) × (Str → Option Value) × Led × Led × (Led → Led) × Addr × Addr × Addr × Addr × Addr × (Nat → Tok) × Nat × Nat × Int × Int × Tok × Tok × Tok × List Value × List Value × List (Int × Int × Str) × List (Int × Str) × Str × Cx
noncomputable def S9 (prog : Program) (w : World) (mean : ExcName → Option Value) (mg : Str → Option Value) (mb : Str → Option Value) (rest : Led) (r : Led) (f : Led → Led) (ev : Addr) (ed : Addr) (q : Addr) (i : Addr) (er : Addr) (k : Nat → Tok) (nq : Nat) (ni : Nat) (now : Int) (num : Int) (tn : Tok) (tm : Tok) (t : Tok) (qs : List Value) (is : List Value) (ds : List (Int × Int × Str)) (es : List (Int × Str)) (x : Str) (x9 : Cx) : Prop :=
 ∀ (W : Tl r rest f) (D : DatAll r qs (ds.map tD)) (D2 : DatAll r is (es.map iD)) (hvs : ds.length + es.length < 60) (hnd : (ds.map (·.2.1) ++ es.map (·.1)).Nodup), Does.at prog w mean mg mb 221 [.ref ev, .str x t] 3 20 ((ev, instObj 265 ed) :: (ed, dictOf (evD w.params k now tn q i er num tm) 5) :: (q, listOf qs.toArray nq) :: (i, listOf is.toArray ni) :: rest)
   (fun v news' => ∃ (add : Led), New ((ev, instObj 265 ed) :: (ed, dictOf (evD w.params k now tn q i er num tm) 5) :: (q, listOf qs.toArray nq) :: (i, listOf is.toArray ni) :: rest) add ∧
    ((v = .none ∧ ∀ a ∈ allR ds es, a.2.1 ≠ x) ∨ ∃ z n t1 t2 t3 a, v = .ref z ∧ (z, tupO [.int a.1 t1, .str a.2.1 t2, .str a.2.2 t3] n) ∈ add ∧ a ∈ allR ds es ∧ a.2.1 = x ∧ ∀ b ∈ allR ds es, b.2.1 = x → b.1 ≤ a.1) ∧
    news' = (ev, instObj 265 ed) :: (ed, dictOf (evD w.params k now tn q i er num tm) 5) :: (q, listOf qs.toArray nq) :: (i, listOf is.toArray ni) :: f (add ++ r)) x9.1 x9.2.1 x9.2.2.1 x9.2.2.2.1 x9.2.2.2.2.1 x9.2.2.2.2.2.1 x9.2.2.2.2.2.2.1 x9.2.2.2.2.2.2.2.1 x9.2.2.2.2.2.2.2.2.1 x9.2.2.2.2.2.2.2.2.2.1 x9.2.2.2.2.2.2.2.2.2.2.1 x9.2.2.2.2.2.2.2.2.2.2.2.1 x9.2.2.2.2.2.2.2.2.2.2.2.2.1 x9.2.2.2.2.2.2.2.2.2.2.2.2.2.1 x9.2.2.2.2.2.2.2.2.2.2.2.2.2.2.1 x9.2.2.2.2.2.2.2.2.2.2.2.2.2.2.2.1 x9.2.2.2.2.2.2.2.2.2.2.2.2.2.2.2.2
noncomputable def P9 : T9 → Prop := cur fun prog => cur fun w => cur fun mean => cur fun mg => cur fun mb => cur fun rest => cur fun r => cur fun f => cur fun ev => cur fun ed => cur fun q => cur fun i => cur fun er => cur fun k => cur fun nq => cur fun ni => cur fun now => cur fun num => cur fun tn => cur fun tm => cur fun t => cur fun qs => cur fun is => cur fun ds => cur fun es => cur fun x => fun x9 => S9 prog w mean mg mb rest r f ev ed q i er k nq ni now num tn tm t qs is ds es x x9
theorem ex9 : ∃ x, P9 x → ∀ y, P9 y := drinker P9 (PySem.Challenge.rw_np0139_01.prog, w0, default, default, default, default, default, default, default, default, default, default, default, default, default, default, default, default, default, default, default, default, default, default, default, default, cx0)
@[irreducible] def c9 : T9 := Classical.choose ex9
@[irreducible] def prog := c9.1
@[irreducible] def w := c9.2.1
@[irreducible] def mean := c9.2.2.1
@[irreducible] def mg := c9.2.2.2.1
@[irreducible] def mb := c9.2.2.2.2.1
@[irreducible] def rest := c9.2.2.2.2.2.1
@[irreducible] def r := c9.2.2.2.2.2.2.1
@[irreducible] def f := c9.2.2.2.2.2.2.2.1
@[irreducible] def ev := c9.2.2.2.2.2.2.2.2.1
@[irreducible] def ed := c9.2.2.2.2.2.2.2.2.2.1
@[irreducible] def q := c9.2.2.2.2.2.2.2.2.2.2.1
@[irreducible] def i := c9.2.2.2.2.2.2.2.2.2.2.2.1
@[irreducible] def er := c9.2.2.2.2.2.2.2.2.2.2.2.2.1
@[irreducible] def k := c9.2.2.2.2.2.2.2.2.2.2.2.2.2.1
@[irreducible] def nq := c9.2.2.2.2.2.2.2.2.2.2.2.2.2.2.1
@[irreducible] def ni := c9.2.2.2.2.2.2.2.2.2.2.2.2.2.2.2.1
@[irreducible] def now := c9.2.2.2.2.2.2.2.2.2.2.2.2.2.2.2.2.1
@[irreducible] def num := c9.2.2.2.2.2.2.2.2.2.2.2.2.2.2.2.2.2.1
@[irreducible] def tn := c9.2.2.2.2.2.2.2.2.2.2.2.2.2.2.2.2.2.2.1
@[irreducible] def tm := c9.2.2.2.2.2.2.2.2.2.2.2.2.2.2.2.2.2.2.2.1
@[irreducible] def t := c9.2.2.2.2.2.2.2.2.2.2.2.2.2.2.2.2.2.2.2.2.1
@[irreducible] def qs := c9.2.2.2.2.2.2.2.2.2.2.2.2.2.2.2.2.2.2.2.2.2.1
@[irreducible] def is := c9.2.2.2.2.2.2.2.2.2.2.2.2.2.2.2.2.2.2.2.2.2.2.1
@[irreducible] def ds := c9.2.2.2.2.2.2.2.2.2.2.2.2.2.2.2.2.2.2.2.2.2.2.2.1
@[irreducible] def es := c9.2.2.2.2.2.2.2.2.2.2.2.2.2.2.2.2.2.2.2.2.2.2.2.2.1
@[irreducible] def x := c9.2.2.2.2.2.2.2.2.2.2.2.2.2.2.2.2.2.2.2.2.2.2.2.2.2.1
@[irreducible] def x9 := c9.2.2.2.2.2.2.2.2.2.2.2.2.2.2.2.2.2.2.2.2.2.2.2.2.2.2
abbrev a := x9.2.2.2.2.2.1
theorem core9 : S9 prog w mean mg mb rest r f ev ed q i er k nq ni now num tn tm t qs is ds es x x9 := by
 refine wr_z (by
 intro W D D2 hvs hnd B F X T N hk hd hu hret
 have hsub : ∀ p ∈ r, p ∈ rest := W.sub
 refine wpAny_call ?_
 k_dflt ktr_enter
 k_with "call ref" => ((fail_if_success (fail_if_success (have h9 := in_C4))); ((refine Stop.out ?_)))
 f_tup
 k_steps
 refine Stop.mk ?_
 f_tup
 refine Does.use (by k_asm) (by assumption) (by k_asm) (by k_asm) (by assumption) rfl (all_events_does .nil (D.mono hsub) (D2.mono hsub) hvs hnd) (by ktr_room) (by ktr_units) ?_
 intro v9 h9 tk9 news9 F9 N9
 (km_mul add; km_mul D9; km_mul ys; km_mul c; km_mul l; k_extra "st"; k_extra "sr"; km_mul hnew; km_mul hmD; km_mul hys; km_mul hpl; km_mul hol; k_extra "sr")
 f_tup
 k_with "my pyIter ref" => ((fail_if_success (fail_if_success (have h9 := in_C4))); ((refine Stop.out ?_)))
 f_tup
 k_steps
 refine Stop.mk ?_
 f_tup
 rw [allR_E] at hpl
 f_tup
 (refine arr ?_ (perm_unmap _ hpl rfl); km_mul rows; km_mul hpr; k_extra "sr")
 rw [List.map_map] at hys
 have hrl : rows.length < 60 := by
  rw [hpr.length_eq]; simpa [allR] using hvs
 (try (with_reducible refine unw (by assumption) ?_))
 refine loopT rD (fun _ : Unit => (ev, instObj 265 ed) :: (ed, dictOf (evD w.params k now tn q i er num tm) 5) :: (q, listOf qs.toArray nq) :: (i, listOf is.toArray ni) :: add)
  (ev :: ed :: q :: i :: add.map (·.1)) rest (fun pre tl _ => tl = [] ∧ ∀ a ∈ pre, a.2.1 ≠ x) (c₀ := ())
  (fun _ => rfl) (fun _ => .tail _ (.tail _ (.tail _ (.tail _ hmD)))) hys rfl F9 N9 ⟨rfl, fun _ h => nomatch h⟩ ?_ ?_
 ·intro pre
  (km_mul k1; km_mul x1; intro kd1)
  intro post v
  ((first | with_reducible refine all_unit ?_ | (intros o9_16; cases o9_16)))
  intro tl h9 tk9 own hds hv
  (k_extra "st"; k_extra "sr"; intro hpre)
  intro hown F8 N8
  f_tup
  f_tup
  (refine arr ?_ (rD_inv hv); km_mul z; km_mul cz; km_mul t1; km_mul t2; km_mul t3; k_extra "st"; k_extra "sr"; intro hz)
  dsimp only [List.cons_append, List.nil_append] at N8
  dsimp only at hz
  f_tup
  k_steps
  ·unfold TPost
   dsimp only
   f_tup
   k_steps
   have he : x1 = x := by simp_all
   rename News _ _ _ _ => N7
   refine hret _ _ _ _ (by assumption) (fin_news [_, _, _, _] add W (fun p hp => N7 p ?_)) ⟨add, hnew, .inr ⟨z, cz, t1, t2, t3, (k1, x1, kd1), rfl, hz, hpr.mem_iff.mp (by rw [hds]; simp), he, fun b hb hbx => rows_max (P := fun t => t.2.1 = x) hol hds hpre (hpr.mem_iff.mpr hb) hbx⟩, rfl⟩
   revert p hp
   dsimp only [List.cons_append, List.nil_append]
   kqd_sub
  ·have hne : x1 ≠ x := by
    intro e
    subst e
    simp_all
   rename News _ _ _ _ => N7
   refine TPost.next () [] (by assumption) N7 (fun y hy => by simp only [if_neg hy]) (by dsimp only [List.cons_append, List.nil_append]; kqd_sub) (fun p hp => nomatch hp) ⟨rfl, fun a ha => ?_⟩
   rcases List.mem_append.mp ha with ha | ha
   ·exact hpre a ha
   ·rw [List.mem_singleton.mp ha]; exact hne
 ((first | with_reducible refine all_unit ?_ | (intros o9_19; cases o9_19)))
 intro tl u h3 tk3
 (k_extra "st"; k_extra "sr"; intro hall)
 intro F3 N3
 f_tup
 dsimp only [List.cons_append, List.nil_append] at N3
 f_tup
 k_steps
 rename News _ _ _ _ => N7
 refine hret _ _ _ _ (by assumption) (fin_news [_, _, _, _] add W (fun p hp => N7 p ?_)) ⟨add, hnew, .inl ⟨rfl, fun a ha => hall a (hpr.mem_iff.mpr ha)⟩, rfl⟩
 revert p hp
 dsimp only [List.cons_append, List.nil_append]
 kqd_sub
 ) ?_
 intro q f
 simpa using f (default : (by exact Fin 1))

theorem ok9 : ∀ y, P9 y := Classical.choose_spec ex9 (by with_unfolding_all exact core9)
end event_of_h
theorem event_of_does {prog : Program} {w : World} {mean : ExcName → Option Value} {mg mb : Str → Option Value} {rest r : Led} {f : Led → Led}
  {ev ed q i er : Addr} {k : Nat → Tok} {nq ni : Nat} {now num : Int} {tn tm t : Tok} {qs is : List Value} {ds : List (Int × Int × Str)} {es : List (Int × Str)} {x : Str}
  (W : Tl r rest f) (D : DatAll r qs (ds.map tD)) (D2 : DatAll r is (es.map iD)) (hvs : ds.length + es.length < 60) (hnd : (ds.map (·.2.1) ++ es.map (·.1)).Nodup) :
  Does prog w mean mg mb 221 [.ref ev, .str x t] 3 20 ((ev, instObj 265 ed) :: (ed, dictOf (evD w.params k now tn q i er num tm) 5) :: (q, listOf qs.toArray nq) :: (i, listOf is.toArray ni) :: rest)
   (fun v news' => ∃ (add : Led), New ((ev, instObj 265 ed) :: (ed, dictOf (evD w.params k now tn q i er num tm) 5) :: (q, listOf qs.toArray nq) :: (i, listOf is.toArray ni) :: rest) add ∧
    ((v = .none ∧ ∀ a ∈ allR ds es, a.2.1 ≠ x) ∨ ∃ z n t1 t2 t3 a, v = .ref z ∧ (z, tupO [.int a.1 t1, .str a.2.1 t2, .str a.2.2 t3] n) ∈ add ∧ a ∈ allR ds es ∧ a.2.1 = x ∧ ∀ b ∈ allR ds es, b.2.1 = x → b.1 ≤ a.1) ∧
    news' = (ev, instObj 265 ed) :: (ed, dictOf (evD w.params k now tn q i er num tm) 5) :: (q, listOf qs.toArray nq) :: (i, listOf is.toArray ni) :: f (add ++ r)) := by
 intros dp un gd cn cs a ccd cl outer A₀ base h₀ L m s Q E
 exact event_of_h.ok9 (prog, w, mean, mg, mb, rest, r, f, ev, ed, q, i, er, k, nq, ni, now, num, tn, tm, t, qs, is, ds, es, x, (dp, un, gd, cn, cs, a, ccd, cl, outer, A₀, base, h₀, L, m, s, Q, E)) W D D2 hvs hnd
end
theorem In_C5.in_C5 : True := trivial
noncomputable section
open In_C5
namespace event_named_h
noncomputable abbrev T9 : Type := Program × World × (ExcName → Option Value) × (Str → Option Value) × (Str → Option Value) × Led × Led × (Led → Led) × Addr × Addr × Addr × Addr × Addr × (Nat → Tok) × Nat × Nat × Int × Int × Tok × Tok × Tok × List Value × List Value × List (Int × Int × Str) × List (Int × Str) × Str × Cx
noncomputable def S9 (prog : Program) (w : World) (mean : ExcName → Option Value) (mg : Str → Option Value) (mb : Str → Option Value) (rest : Led) (r : Led) (f : Led → Led) (ev : Addr) (ed : Addr) (q : Addr) (i : Addr) (er : Addr) (k : Nat → Tok) (nq : Nat) (ni : Nat) (now : Int) (num : Int) (tn : Tok) (tm : Tok) (t : Tok) (qs : List Value) (is : List Value) (ds : List (Int × Int × Str)) (es : List (Int × Str)) (x : Str) (x9 : Cx) : Prop :=
 ∀ (W : Tl r rest f) (D : DatAll r qs (ds.map tD)) (D2 : DatAll r is (es.map iD)) (hvs : ds.length + es.length < 60) (hnd : (ds.map (·.2.1) ++ es.map (·.1)).Nodup) (hbd : ∀ a ∈ allR ds es, 0 ≤ a.1 ∧ a.1 < 1000000), Does.at prog w mean mg mb 214 [.ref ev, .str x t] 3 20 ((ev, instObj 265 ed) :: (ed, dictOf (evD w.params k now tn q i er num tm) 5) :: (q, listOf qs.toArray nq) :: (i, listOf is.toArray ni) :: rest)
   (fun v news' => ∃ (add : Led), New ((ev, instObj 265 ed) :: (ed, dictOf (evD w.params k now tn q i er num tm) 5) :: (q, listOf qs.toArray nq) :: (i, listOf is.toArray ni) :: rest) add ∧
    ((v = .none ∧ ∀ a ∈ allR ds es, aft a.1 ≠ x) ∨ ∃ z n t1 t2 t3 a, v = .ref z ∧ (z, tupO [.int a.1 t1, .str a.2.1 t2, .str a.2.2 t3] n) ∈ add ∧ a ∈ allR ds es ∧ aft a.1 = x) ∧
    news' = (ev, instObj 265 ed) :: (ed, dictOf (evD w.params k now tn q i er num tm) 5) :: (q, listOf qs.toArray nq) :: (i, listOf is.toArray ni) :: f (add ++ r)) x9.1 x9.2.1 x9.2.2.1 x9.2.2.2.1 x9.2.2.2.2.1 x9.2.2.2.2.2.1 x9.2.2.2.2.2.2.1 x9.2.2.2.2.2.2.2.1 x9.2.2.2.2.2.2.2.2.1 x9.2.2.2.2.2.2.2.2.2.1 x9.2.2.2.2.2.2.2.2.2.2.1 x9.2.2.2.2.2.2.2.2.2.2.2.1 x9.2.2.2.2.2.2.2.2.2.2.2.2.1 x9.2.2.2.2.2.2.2.2.2.2.2.2.2.1 x9.2.2.2.2.2.2.2.2.2.2.2.2.2.2.1 x9.2.2.2.2.2.2.2.2.2.2.2.2.2.2.2.1 x9.2.2.2.2.2.2.2.2.2.2.2.2.2.2.2.2
noncomputable def P9 : T9 → Prop := cur fun prog => cur fun w => cur fun mean => cur fun mg => cur fun mb => cur fun rest => cur fun r => cur fun f => cur fun ev => cur fun ed => cur fun q => cur fun i => cur fun er => cur fun k => cur fun nq => cur fun ni => cur fun now => cur fun num => cur fun tn => cur fun tm => cur fun t => cur fun qs => cur fun is => cur fun ds => cur fun es => cur fun x => fun x9 => S9 prog w mean mg mb rest r f ev ed q i er k nq ni now num tn tm t qs is ds es x x9
theorem ex9 : ∃ x, P9 x → ∀ y, P9 y := drinker P9 (PySem.Challenge.rw_np0139_01.prog, w0, default, default, default, default, default, default, default, default, default, default, default, default, default, default, default, default, default, default, default, default, default, default, default, default, cx0)
@[irreducible] def c9 : T9 := Classical.choose ex9
@[irreducible] def prog := c9.1
@[irreducible] def w := c9.2.1
@[irreducible] def mean := c9.2.2.1
@[irreducible] def mg := c9.2.2.2.1
@[irreducible] def mb := c9.2.2.2.2.1
@[irreducible] def rest := c9.2.2.2.2.2.1
@[irreducible] def r := c9.2.2.2.2.2.2.1
@[irreducible] def f := c9.2.2.2.2.2.2.2.1
@[irreducible] def ev := c9.2.2.2.2.2.2.2.2.1
@[irreducible] def ed := c9.2.2.2.2.2.2.2.2.2.1
@[irreducible] def q := c9.2.2.2.2.2.2.2.2.2.2.1
@[irreducible] def i := c9.2.2.2.2.2.2.2.2.2.2.2.1
@[irreducible] def er := c9.2.2.2.2.2.2.2.2.2.2.2.2.1
@[irreducible] def k := c9.2.2.2.2.2.2.2.2.2.2.2.2.2.1
@[irreducible] def nq := c9.2.2.2.2.2.2.2.2.2.2.2.2.2.2.1
@[irreducible] def ni := c9.2.2.2.2.2.2.2.2.2.2.2.2.2.2.2.1
@[irreducible] def now := c9.2.2.2.2.2.2.2.2.2.2.2.2.2.2.2.2.1
@[irreducible] def num := c9.2.2.2.2.2.2.2.2.2.2.2.2.2.2.2.2.2.1
@[irreducible] def tn := c9.2.2.2.2.2.2.2.2.2.2.2.2.2.2.2.2.2.2.1
@[irreducible] def tm := c9.2.2.2.2.2.2.2.2.2.2.2.2.2.2.2.2.2.2.2.1
@[irreducible] def t := c9.2.2.2.2.2.2.2.2.2.2.2.2.2.2.2.2.2.2.2.2.1
@[irreducible] def qs := c9.2.2.2.2.2.2.2.2.2.2.2.2.2.2.2.2.2.2.2.2.2.1
@[irreducible] def is := c9.2.2.2.2.2.2.2.2.2.2.2.2.2.2.2.2.2.2.2.2.2.2.1
@[irreducible] def ds := c9.2.2.2.2.2.2.2.2.2.2.2.2.2.2.2.2.2.2.2.2.2.2.2.1
@[irreducible] def es := c9.2.2.2.2.2.2.2.2.2.2.2.2.2.2.2.2.2.2.2.2.2.2.2.2.1
@[irreducible] def x := c9.2.2.2.2.2.2.2.2.2.2.2.2.2.2.2.2.2.2.2.2.2.2.2.2.2.1
@[irreducible] def x9 := c9.2.2.2.2.2.2.2.2.2.2.2.2.2.2.2.2.2.2.2.2.2.2.2.2.2.2
abbrev a := x9.2.2.2.2.2.1
theorem core9 : S9 prog w mean mg mb rest r f ev ed q i er k nq ni now num tn tm t qs is ds es x x9 := by
 refine wr_z (by
 intro W D D2 hvs hnd hbd B F X T N hk hd hu hret
 have hsub : ∀ p ∈ r, p ∈ rest := W.sub
 refine wpAny_call ?_
 k_dflt ktr_enter
 k_with "call ref" => ((fail_if_success (fail_if_success (have h9 := in_C5))); ((refine Stop.out ?_)))
 f_tup
 k_steps
 refine Stop.mk ?_
 f_tup
 refine Does.use (by k_asm) (by assumption) (by k_asm) (by k_asm) (by assumption) rfl (all_events_does .nil (D.mono hsub) (D2.mono hsub) hvs hnd) (by ktr_room) (by ktr_units) ?_
 intro v9 h9 tk9 news9 F9 N9
 (km_mul add; km_mul D9; km_mul ys; km_mul c; km_mul l; k_extra "st"; k_extra "sr"; km_mul hnew; km_mul hmD; km_mul hys; km_mul hpl; km_mul hol; k_extra "sr")
 f_tup
 k_with "my pyIter ref" => ((fail_if_success (fail_if_success (have h9 := in_C5))); ((refine Stop.out ?_)))
 f_tup
 k_steps
 refine Stop.mk ?_
 f_tup
 rw [allR_E] at hpl
 f_tup
 (refine arr ?_ (perm_unmap _ hpl rfl); km_mul rows; km_mul hpr; k_extra "sr")
 rw [List.map_map] at hys
 have hrl : rows.length < 60 := by
  rw [hpr.length_eq]; simpa [allR] using hvs
 (try (with_reducible refine unw (by assumption) ?_))
 refine loopT rD (fun _ : Unit => (ev, instObj 265 ed) :: (ed, dictOf (evD w.params k now tn q i er num tm) 5) :: (q, listOf qs.toArray nq) :: (i, listOf is.toArray ni) :: add)
  (ev :: ed :: q :: i :: add.map (·.1)) rest (fun pre tl _ => tl = [] ∧ ∀ a ∈ pre, aft a.1 ≠ x) (c₀ := ())
  (fun _ => rfl) (fun _ => .tail _ (.tail _ (.tail _ (.tail _ hmD)))) hys rfl F9 N9 ⟨rfl, fun _ h => nomatch h⟩ ?_ ?_
 ·intro pre
  (km_mul k1; km_mul x1; intro kd1)
  intro post v
  ((first | with_reducible refine all_unit ?_ | (intros o9_24; cases o9_24)))
  intro tl h9 tk9 own hds hv
  (k_extra "st"; k_extra "sr"; intro hpre)
  intro hown F8 N8
  f_tup
  f_tup
  (refine arr ?_ (rD_inv hv); km_mul z; km_mul cz; km_mul t1; km_mul t2; km_mul t3; k_extra "st"; k_extra "sr"; intro hz)
  dsimp only [List.cons_append, List.nil_append] at N8
  dsimp only at hz
  have hb1 := hbd (k1, x1, kd1) (hpr.mem_iff.mp (by rw [hds]; simp))
  f_tup
  (revert hb1; km_mul hb1; intro hb2)
  dsimp only at hb1 hb2
  f_tup
  k_steps
  ·unfold TPost
   dsimp only
   f_tup
   k_steps
   have he : aft k1 = x := by simp_all
   rename News _ _ _ _ => N7
   refine hret _ _ _ _ (by assumption) (fin_news [_, _, _, _] add W (fun p hp => N7 p ?_)) ⟨add, hnew, .inr ⟨z, cz, t1, t2, t3, (k1, x1, kd1), rfl, hz, hpr.mem_iff.mp (by rw [hds]; simp), he⟩, rfl⟩
   revert p hp
   dsimp only [List.cons_append, List.nil_append]
   kqd_sub
  ·have hne : aft k1 ≠ x := by
    intro e
    simp_all
   rename News _ _ _ _ => N7
   refine TPost.next () [] (by assumption) N7 (fun y hy => by simp only [if_neg hy]) (by dsimp only [List.cons_append, List.nil_append]; kqd_sub) (fun p hp => nomatch hp) ⟨rfl, fun a ha => ?_⟩
   rcases List.mem_append.mp ha with ha | ha
   ·exact hpre a ha
   ·rw [List.mem_singleton.mp ha]; exact hne
 ((first | with_reducible refine all_unit ?_ | (intros o9_27; cases o9_27)))
 intro tl u h3 tk3
 (k_extra "st"; k_extra "sr"; intro hall)
 intro F3 N3
 f_tup
 dsimp only [List.cons_append, List.nil_append] at N3
 f_tup
 k_steps
 rename News _ _ _ _ => N7
 refine hret _ _ _ _ (by assumption) (fin_news [_, _, _, _] add W (fun p hp => N7 p ?_)) ⟨add, hnew, .inl ⟨rfl, fun a ha => hall a (hpr.mem_iff.mpr ha)⟩, rfl⟩
 revert p hp
 dsimp only [List.cons_append, List.nil_append]
 kqd_sub
 ) ?_
 intro q f
 simpa using f (default : (by exact Fin 1))

theorem ok9 : ∀ y, P9 y := Classical.choose_spec ex9 (by with_unfolding_all exact core9)
end event_named_h
theorem event_named_does {prog : Program} {w : World} {mean : ExcName → Option Value} {mg mb : Str → Option Value} {rest r : Led} {f : Led → Led}
  {ev ed q i er : Addr} {k : Nat → Tok} {nq ni : Nat} {now num : Int} {tn tm t : Tok} {qs is : List Value} {ds : List (Int × Int × Str)} {es : List (Int × Str)} {x : Str}
  (W : Tl r rest f) (D : DatAll r qs (ds.map tD)) (D2 : DatAll r is (es.map iD)) (hvs : ds.length + es.length < 60) (hnd : (ds.map (·.2.1) ++ es.map (·.1)).Nodup) (hbd : ∀ a ∈ allR ds es, 0 ≤ a.1 ∧ a.1 < 1000000) :
  Does prog w mean mg mb 214 [.ref ev, .str x t] 3 20 ((ev, instObj 265 ed) :: (ed, dictOf (evD w.params k now tn q i er num tm) 5) :: (q, listOf qs.toArray nq) :: (i, listOf is.toArray ni) :: rest)
   (fun v news' => ∃ (add : Led), New ((ev, instObj 265 ed) :: (ed, dictOf (evD w.params k now tn q i er num tm) 5) :: (q, listOf qs.toArray nq) :: (i, listOf is.toArray ni) :: rest) add ∧
    ((v = .none ∧ ∀ a ∈ allR ds es, aft a.1 ≠ x) ∨ ∃ z n t1 t2 t3 a, v = .ref z ∧ (z, tupO [.int a.1 t1, .str a.2.1 t2, .str a.2.2 t3] n) ∈ add ∧ a ∈ allR ds es ∧ aft a.1 = x) ∧
    news' = (ev, instObj 265 ed) :: (ed, dictOf (evD w.params k now tn q i er num tm) 5) :: (q, listOf qs.toArray nq) :: (i, listOf is.toArray ni) :: f (add ++ r)) := by
 intros dp un gd cn cs a ccd cl outer A₀ base h₀ L m s Q E
 exact event_named_h.ok9 (prog, w, mean, mg, mb, rest, r, f, ev, ed, q, i, er, k, nq, ni, now, num, tn, tm, t, qs, is, ds, es, x, (dp, un, gd, cn, cs, a, ccd, cl, outer, A₀, base, h₀, L, m, s, Q, E)) W D D2 hvs hnd hbd
end
theorem In_C6.in_C6 : True := trivial
noncomputable section
open In_C6
noncomputable def Meets (ds : List (Int × Int × Str)) (es : List (Int × Str)) (x : Str) : Option Int → Prop
 |none => (∀ a ∈ allR ds es, a.2.1 ≠ x) ∧ ∀ a ∈ allR ds es, aft a.1 ≠ x
 |some n => ∃ a ∈ allR ds es, a.1 = n ∧ ((a.2.1 = x ∧ ∀ b ∈ allR ds es, b.2.1 = x → b.1 ≤ n) ∨ ((∀ b ∈ allR ds es, b.2.1 ≠ x) ∧ aft n = x))
noncomputable def offQ (tgt : Option Int) (ds : List (Int × Int × Str)) : List (Int × Int × Str) := ds.filter fun t => decide (some t.2.1 ≠ tgt)
noncomputable def offI (tgt : Option Int) (es : List (Int × Str)) : List (Int × Str) := es.filter fun t => decide (some t.1 ≠ tgt)
theorem offQ_none (ds : List (Int × Int × Str)) : offQ none ds = ds := by simp [offQ]
theorem offI_none (es : List (Int × Str)) : offI none es = es := by simp [offI]
theorem some_ne {a b : Int} (h : a ≠ b) : some a ≠ some b := fun e => h (Option.some.inj e)
theorem some_nn {a b : Int} (h : a = b) : ¬ some a ≠ some b := fun k => k (congrArg some h)
theorem offQ_next {tgt : Option Int} {ds : List (Int × Int × Str)} {i : Nat} {t9 : Int × Int × Str} (h : ds[i]? = some t9) : offQ tgt (ds.take (i + 1)) = offQ tgt (ds.take i) ++ if some t9.2.1 ≠ tgt then [t9] else [] := by
 unfold offQ
 rw [List.take_add_one, h, Option.toList_some, List.filter_append]
 by_cases e : some t9.2.1 = tgt <;> simp [e]
theorem offI_next {tgt : Option Int} {es : List (Int × Str)} {i : Nat} {t9 : Int × Str} (h : es[i]? = some t9) : offI tgt (es.take (i + 1)) = offI tgt (es.take i) ++ if some t9.1 ≠ tgt then [t9] else [] := by
 unfold offI
 rw [List.take_add_one, h, Option.toList_some, List.filter_append]
 by_cases e : some t9.1 = tgt <;> simp [e]
theorem new_map {news news' add : Led} (h : New news add) (hs : ∀ p ∈ news', p.1 ∈ news.map (·.1)) : New news' add := fun p hp q hq => by
 obtain ⟨q', hq', e⟩ := List.mem_map.mp (hs q hq)
 rw [← e]
 exact h p hp q' hq'
namespace cancel_h
noncomputable abbrev T9 : Type := Program × World × (ExcName → Option Value) × (Str → Option Value) × (Str → Option Value) × Led × Led × (Led → Led) × Addr × Addr × Addr × Addr × Addr × (Nat → Tok) × Nat × Nat × Int × Int × Tok × Tok × Tok × List Value × List Value × List (Int × Int × Str) × List (Int × Str) × Str × Cx
noncomputable def S9 (prog : Program) (w : World) (mean : ExcName → Option Value) (mg : Str → Option Value) (mb : Str → Option Value) (rest : Led) (r : Led) (f : Led → Led) (ev : Addr) (ed : Addr) (q : Addr) (i : Addr) (er : Addr) (k : Nat → Tok) (nq : Nat) (ni : Nat) (now : Int) (num : Int) (tn : Tok) (tm : Tok) (t : Tok) (qs : List Value) (is : List Value) (ds : List (Int × Int × Str)) (es : List (Int × Str)) (x : Str) (x9 : Cx) : Prop :=
 ∀ (W : Tl r rest f) (o1 : ∀ p ∈ rest, p.1 ≠ ed) (d1 : ev ≠ ed) (d2 : q ≠ ed) (d3 : i ≠ ed) (d4 : q ≠ i) (D : DatAll r qs (ds.map tD)) (D2 : DatAll r is (es.map iD)) (hvs : ds.length + es.length < 60) (hnd : (ds.map (·.2.1) ++ es.map (·.1)).Nodup) (hbd : ∀ a ∈ allR ds es, 0 ≤ a.1 ∧ a.1 < 1000000), Does.at prog w mean mg mb 255 [.ref ev, .str x t] 4 24 ((ev, instObj 265 ed) :: (ed, dictOf (evD w.params k now tn q i er num tm) 5) :: (q, listOf qs.toArray nq) :: (i, listOf is.toArray ni) :: rest)
   (fun v news' => ∃ (add : Led) (tgt : Option Int) (q' i' : Addr) (nq' ni' : Nat) (qs' is' : List Value), v = .none ∧ New ((ev, instObj 265 ed) :: (ed, dictOf (evD w.params k now tn q i er num tm) 5) :: (q, listOf qs.toArray nq) :: (i, listOf is.toArray ni) :: rest) add ∧
    Meets ds es x tgt ∧ DatAll (add ++ r) qs' ((offQ tgt ds).map tD) ∧ DatAll (add ++ r) is' ((offI tgt es).map iD) ∧
    (q' = q ∨ ∀ p ∈ (ev, instObj 265 ed) :: (ed, dictOf (evD w.params k now tn q i er num tm) 5) :: (q, listOf qs.toArray nq) :: (i, listOf is.toArray ni) :: rest, p.1 ≠ q') ∧
    (i' = i ∨ ∀ p ∈ (ev, instObj 265 ed) :: (ed, dictOf (evD w.params k now tn q i er num tm) 5) :: (q, listOf qs.toArray nq) :: (i, listOf is.toArray ni) :: rest, p.1 ≠ i') ∧ q' ≠ i' ∧ (∀ p ∈ add, p.1 ≠ q') ∧ (∀ p ∈ add, p.1 ≠ i') ∧
    news' = (ev, instObj 265 ed) :: (ed, dictOf (evD w.params k now tn q' i' er num tm) 5) :: (q', listOf qs'.toArray nq') :: (i', listOf is'.toArray ni') :: f (add ++ r)) x9.1 x9.2.1 x9.2.2.1 x9.2.2.2.1 x9.2.2.2.2.1 x9.2.2.2.2.2.1 x9.2.2.2.2.2.2.1 x9.2.2.2.2.2.2.2.1 x9.2.2.2.2.2.2.2.2.1 x9.2.2.2.2.2.2.2.2.2.1 x9.2.2.2.2.2.2.2.2.2.2.1 x9.2.2.2.2.2.2.2.2.2.2.2.1 x9.2.2.2.2.2.2.2.2.2.2.2.2.1 x9.2.2.2.2.2.2.2.2.2.2.2.2.2.1 x9.2.2.2.2.2.2.2.2.2.2.2.2.2.2.1 x9.2.2.2.2.2.2.2.2.2.2.2.2.2.2.2.1 x9.2.2.2.2.2.2.2.2.2.2.2.2.2.2.2.2
noncomputable def P9 : T9 → Prop := cur fun prog => cur fun w => cur fun mean => cur fun mg => cur fun mb => cur fun rest => cur fun r => cur fun f => cur fun ev => cur fun ed => cur fun q => cur fun i => cur fun er => cur fun k => cur fun nq => cur fun ni => cur fun now => cur fun num => cur fun tn => cur fun tm => cur fun t => cur fun qs => cur fun is => cur fun ds => cur fun es => cur fun x => fun x9 => S9 prog w mean mg mb rest r f ev ed q i er k nq ni now num tn tm t qs is ds es x x9
theorem ex9 : ∃ x, P9 x → ∀ y, P9 y := drinker P9 (PySem.Challenge.rw_np0139_01.prog, w0, default, default, default, default, default, default, default, default, default, default, default, default, default, default, default, default, default, default, default, default, default, default, default, default, cx0)
@[irreducible] def c9 : T9 := Classical.choose ex9
@[irreducible] def prog := c9.1
@[irreducible] def w := c9.2.1
@[irreducible] def mean := c9.2.2.1
@[irreducible] def mg := c9.2.2.2.1
@[irreducible] def mb := c9.2.2.2.2.1
@[irreducible] def rest := c9.2.2.2.2.2.1
@[irreducible] def r := c9.2.2.2.2.2.2.1
@[irreducible] def f := c9.2.2.2.2.2.2.2.1
@[irreducible] def ev := c9.2.2.2.2.2.2.2.2.1
@[irreducible] def ed := c9.2.2.2.2.2.2.2.2.2.1
@[irreducible] def q := c9.2.2.2.2.2.2.2.2.2.2.1
@[irreducible] def i := c9.2.2.2.2.2.2.2.2.2.2.2.1
@[irreducible] def er := c9.2.2.2.2.2.2.2.2.2.2.2.2.1
@[irreducible] def k := c9.2.2.2.2.2.2.2.2.2.2.2.2.2.1
@[irreducible] def nq := c9.2.2.2.2.2.2.2.2.2.2.2.2.2.2.1
@[irreducible] def ni := c9.2.2.2.2.2.2.2.2.2.2.2.2.2.2.2.1
@[irreducible] def now := c9.2.2.2.2.2.2.2.2.2.2.2.2.2.2.2.2.1
@[irreducible] def num := c9.2.2.2.2.2.2.2.2.2.2.2.2.2.2.2.2.2.1
@[irreducible] def tn := c9.2.2.2.2.2.2.2.2.2.2.2.2.2.2.2.2.2.2.1
@[irreducible] def tm := c9.2.2.2.2.2.2.2.2.2.2.2.2.2.2.2.2.2.2.2.1
@[irreducible] def t := c9.2.2.2.2.2.2.2.2.2.2.2.2.2.2.2.2.2.2.2.2.1
@[irreducible] def qs := c9.2.2.2.2.2.2.2.2.2.2.2.2.2.2.2.2.2.2.2.2.2.1
@[irreducible] def is := c9.2.2.2.2.2.2.2.2.2.2.2.2.2.2.2.2.2.2.2.2.2.2.1
@[irreducible] def ds := c9.2.2.2.2.2.2.2.2.2.2.2.2.2.2.2.2.2.2.2.2.2.2.2.1
@[irreducible] def es := c9.2.2.2.2.2.2.2.2.2.2.2.2.2.2.2.2.2.2.2.2.2.2.2.2.1
@[irreducible] def x := c9.2.2.2.2.2.2.2.2.2.2.2.2.2.2.2.2.2.2.2.2.2.2.2.2.2.1
@[irreducible] def x9 := c9.2.2.2.2.2.2.2.2.2.2.2.2.2.2.2.2.2.2.2.2.2.2.2.2.2.2
abbrev a := x9.2.2.2.2.2.1
theorem core9 : S9 prog w mean mg mb rest r f ev ed q i er k nq ni now num tn tm t qs is ds es x x9 := by
 refine wr_z (by
 intro W o1 d1 d2 d3 d4 D D2 hvs hnd hbd B F X T N hk hd hu hret
 have hsub : ∀ p ∈ r, p ∈ rest := W.sub
 have hl : qs.length = ds.length := by rw [D.length, List.length_map]
 have hl2 : is.length = es.length := by rw [D2.length, List.length_map]
 refine wpAny_call ?_
 k_dflt ktr_enter
 k_with "call ref" => ((fail_if_success (fail_if_success (have h9 := in_C6))); ((refine Stop.out ?_)))
 f_tup
 k_steps
 refine Stop.mk ?_
 f_tup
 rename News _ _ _ _ => N9
 rename Fr _ _ _ _ => F9
 f_tup
 (refine arr ?_ (fr_names F9); km_mul g9; km_mul L9; k_extra "st"; k_extra "sr"; k_extra "sr")
 f_tup
 (refine arr ?_ (led1 N9); km_mul o9_29; km_mul oc; km_mul o9_30; k_extra "sr")
 have N8 := take4 N9 (.tail .head) (.tail .head) (.tail .head) (.tail .head)
 clear N9
 refine Does.use (by k_asm) F9 (by k_asm) (by k_asm) N8 rfl (event_of_does .nil (D.mono fun p hp => .tail _ (hsub p hp)) (D2.mono fun p hp => .tail _ (hsub p hp)) hvs hnd) (by ktr_room) (by ktr_units) ?_
 clear N8 F9
 intro v9 h9 tk9 news9 F9 N9
 (km_mul add; km_mul hnew; km_mul hv; k_extra "sr")
 f_tup
 f_tup
 focus (rcases hv with o9_33 | o9_33; (focus (revert o9_33; k_extra "st"; k_extra "sr"; intro hno)); rotate_left; (focus (revert o9_33; km_mul z; km_mul n; km_mul t1; km_mul t2; km_mul t3; km_mul a0; k_extra "st"; k_extra "sr"; km_mul hz; km_mul ha0; km_mul hx0; intro hmax)); rotate_left)
 all_goals have N8 : News g9 L9 h9 ((L9 + 1, oc) :: (ev, instObj 265 ed) :: (ed, dictOf (evD w.params k now tn q i er num tm) 5) :: (q, listOf qs.toArray nq) :: (i, listOf is.toArray ni) :: (add ++ rest)) := fun p hp => N9 p (by revert p hp; kqd_sub)
 all_goals clear N9
 focus
  k_with "call ref" => ((fail_if_success (fail_if_success (have h9 := in_C6))); ((refine Stop.out ?_)))
  f_tup
  k_steps
  refine Stop.mk ?_
  f_tup
  rename News _ _ _ _ => N9
  rename Fr _ _ _ _ => F9
  f_tup
  (refine arr ?_ (led1 N9); km_mul o9_34; km_mul oc2; km_mul o9_35; k_extra "sr")
  have N8 := take4 N9 (.tail .head) (.tail .head) (.tail .head) (.tail .head)
  clear N9
  refine Does.use (by k_asm) F9 (by k_asm) (by k_asm) N8 rfl (event_named_does .nil (D.mono fun p hp => .tail _ (List.mem_append_right _ (hsub p hp))) (D2.mono fun p hp => .tail _ (List.mem_append_right _ (hsub p hp))) hvs hnd hbd) (by ktr_room) (by ktr_units) ?_
  clear N8 F9
  intro v9 h9 tk9 news9 F9 N9
  (km_mul add2; km_mul hnew2; km_mul hv; k_extra "sr")
  f_tup
  f_tup
  (refine arr (a := ∃ ad, ad = add2 ++ add) ?_ (⟨_, rfl⟩); km_mul ad; intro had)
  have hnew3 : New ((ev, instObj 265 ed) :: (ed, dictOf (evD w.params k now tn q i er num tm) 5) :: (q, listOf qs.toArray nq) :: (i, listOf is.toArray ni) :: (L9 + 1, oc) :: rest) ad := by
   rw [had]
   exact new_app (new_map hnew2 (by simp; intro a b hab; exact .inr (.inr (.inr (.inr (.inr (.inr ⟨_, hab⟩))))))) hnew
  have N8 : News g9 L9 h9 ((L9 + 1, oc2) :: (ev, instObj 265 ed) :: (ed, dictOf (evD w.params k now tn q i er num tm) 5) :: (q, listOf qs.toArray nq) :: (i, listOf is.toArray ni) :: (ad ++ rest)) := fun p hp => N9 p (by rw [had] at hp; revert p hp; kqd_sub)
  have hsubA : ∀ p ∈ add2, p ∈ ad := fun p hp => by rw [had]; exact List.mem_append_left _ hp
  clear N9 hnew hnew2 had
  f_tup
  focus (rcases hv with o9_38 | o9_38; (focus (revert o9_38; k_extra "st"; k_extra "sr"; intro hno2)); rotate_left; (focus (revert o9_38; km_mul z; km_mul n; km_mul t1; km_mul t2; km_mul t3; km_mul a0; k_extra "st"; k_extra "sr"; km_mul hz; km_mul ha0; intro hx0)); rotate_left)
  ·k_steps
   rename News _ _ _ _ => N7
   refine hret _ _ _ _ (by assumption) (fin_news [_, _, _, _] ad W (fun p hp => N7 p (by revert p hp; dsimp only [List.cons_append, List.nil_append]; kqd_sub)))
    ⟨ad, none, q, i, nq, ni, qs, is, rfl, new_map hnew3 ?_, ⟨hno, hno2⟩, ?_, ?_, .inl rfl, .inl rfl, d4, New.off hnew3 (by k_mem), New.off hnew3 (by k_mem), rfl⟩
   ·simp; intro a b hab; exact .inr (.inr (.inr (.inr (.inr ⟨_, hab⟩))))
   ·rw [offQ_none]; exact D.mono fun p hp => List.mem_append_right _ hp
   ·rw [offI_none]; exact D2.mono fun p hp => List.mem_append_right _ hp
  have hM : Meets ds es x (some a0.1) := ⟨a0, ha0, rfl, .inr ⟨hno, hx0⟩⟩
  replace hz := hsubA _ hz
  clear hno hx0 hsubA
 rotate_left
 focus
  f_tup
  (refine arr (a := ∃ ad, ad = add) ?_ (⟨_, rfl⟩); km_mul ad; intro had)
  rw [← had] at hnew N8 hz
  have hnew3 := hnew
  have hM : Meets ds es x (some a0.1) := ⟨a0, ha0, rfl, .inl ⟨hx0, hmax⟩⟩
  clear hnew hmax hx0 had
 all_goals
  k_with "CompSrcT" => ((fail_if_success (fail_if_success (have h9 := in_C6))); ((refine Stop.out ?_)))
  f_tup
  k_steps
  refine Stop.mk ?_
  f_tup
  rename News _ _ _ _ => N9
  rename Fr _ _ _ _ => F9
  f_tup
  (refine arr ?_ (led1 N9); km_mul o9_39; km_mul oc3; km_mul o9_40; k_extra "sr")
  k_with "CompEnd" => ((fail_if_success (fail_if_success (have h9 := in_C6))); ((refine Stop.out ?_)))
  refine LCt.CompSrcT.ledger rfl F9 N9 (by k_mem) (by rw [List.size_toArray, sizeLine_eq]; w_how) ?_
  intro g
  refine my_compT (fun i ys nw => nw = _ ∧ DatAll r ys ((offQ (some a0.1) (ds.take i)).map tD)) ⟨rfl, .nil⟩ ?_ ?_
  ·intro i' ys nw v I oI C oC Dl m₂ hh tkk E' hi'
   (k_extra "st"; k_extra "sr"; intro hys)
   intro hPv hC hx F6 N6 off6 ne6
   f_tup
   have hv2 : qs[i']? = some v := by simpa using hPv
   f_tup
   (refine arr ?_ (dat_row D hv2); km_mul t9; km_mul hi2; intro hd)
   clear hv2
   have hd' := hd
   f_tup
   (refine arr ?_ (tD_inv hd); km_mul zz; km_mul cz; km_mul u1; km_mul u2; km_mul u3; k_extra "st"; k_extra "sr"; intro hzz)
   have hz' := hsub _ hzz
   clear N9 F9
   f_tup
   k_steps
   all_goals refine Stop.mk ?_
   all_goals rename News _ _ _ _ => N7
   ·refine LCg.CompEnd.intro (by assumption) N7 _ (fun p hp => hp) off6 (Or.inr ⟨_, by k_mem, rfl, _, rfl⟩) ⟨rfl, ?_⟩
    rw [offQ_next hi2, if_pos (some_ne (by with_reducible assumption)), List.map_append]
    exact hys.append (.one hd')
   ·refine LCg.CompEnd.intro (by assumption) N7 _ (fun p hp => hp) off6 (Or.inr ⟨_, by k_mem, rfl, _, rfl⟩) ⟨rfl, ?_⟩
    rw [offQ_next hi2, if_neg (some_nn (by with_reducible assumption)), List.append_nil]
    exact hys
  ·intro ys1 nw
   (k_extra "st"; k_extra "sr"; intro hys1)
   f_tup
   rw [show qs.toArray.size = ds.length by rw [List.size_toArray, hl], List.take_length] at hys1
   k_with "CompSrcT" => ((fail_if_success (fail_if_success (have h9 := in_C6))); ((refine Stop.out ?_)))
   f_tup
   k_steps
   refine Stop.mk ?_
   f_tup
   rename News _ _ _ _ => N9
   rename Fr _ _ _ _ => F9
   f_tup
   (refine arr ?_ (led1 N9); km_mul D1; km_mul o9_43; k_extra "st"; k_extra "sr"; intro o9_44)
   f_tup
   (refine arr ?_ (led2 N9); km_mul o9_45; km_mul oc4; km_mul o9_46; k_extra "sr")
   refine LCt.CompSrcT.ledger rfl F9 N9 (by k_mem) (by rw [List.size_toArray, sizeLine_eq]; w_how) ?_
   intro g
   refine my_compT (fun i ys nw => nw = _ ∧ DatAll r ys ((offI (some a0.1) (es.take i)).map iD)) ⟨rfl, .nil⟩ ?_ ?_
   ·intro i' ys nw v I oI C oC Dl m₂ hh tkk E' hi'
    (k_extra "st"; k_extra "sr"; intro hys)
    intro hPv hC hx F6 N6 off6 ne6
    f_tup
    have hv2 : is[i']? = some v := by simpa using hPv
    f_tup
    (refine arr ?_ (dat_row D2 hv2); km_mul t9; km_mul hi2; intro hd)
    clear hv2
    have hd' := hd
    f_tup
    (refine arr ?_ (iD_inv hd); km_mul zz; km_mul cz; km_mul u1; km_mul u2; k_extra "st"; k_extra "sr"; intro hzz)
    have hz' := hsub _ hzz
    clear N9 F9
    k_with "CompEnd" => ((fail_if_success (fail_if_success (have h9 := in_C6))); ((refine Stop.out ?_)))
    f_tup
    k_steps
    all_goals refine Stop.mk ?_
    all_goals rename News _ _ _ _ => N7
    ·refine LCg.CompEnd.intro (by assumption) N7 _ (fun p hp => hp) off6 (Or.inr ⟨_, by k_mem, rfl, _, rfl⟩) ⟨rfl, ?_⟩
     rw [offI_next hi2, if_pos (some_ne (by with_reducible assumption)), List.map_append]
     exact hys.append (.one hd')
    ·refine LCg.CompEnd.intro (by assumption) N7 _ (fun p hp => hp) off6 (Or.inr ⟨_, by k_mem, rfl, _, rfl⟩) ⟨rfl, ?_⟩
     rw [offI_next hi2, if_neg (some_nn (by with_reducible assumption)), List.append_nil]
     exact hys
   ·intro ys2 nw
    (k_extra "st"; k_extra "sr"; intro hys2)
    f_tup
    rw [show is.toArray.size = es.length by rw [List.size_toArray, hl2], List.take_length] at hys2
    f_tup
    k_steps
    rename News _ _ _ _ => N7
    f_tup
    (refine arr ?_ (led1 N7); km_mul D2'; km_mul o9_49; k_extra "st"; k_extra "sr"; intro o9_50)
    refine hret _ _ _ _ (by assumption) (fin_news [_, _, (D1, LCg.lst ys1), (D2', LCg.lst ys2)] ad W (fun p hp => N7 p (by revert p hp; dsimp only [List.cons_append, List.nil_append]; kqd_sub)))
     ⟨ad, some a0.1, D1, D2', _, _, ys1, ys2, rfl, new_map hnew3 ?_, hM, hys1.mono fun p hp => List.mem_append_right _ hp, hys2.mono fun p hp => List.mem_append_right _ hp, .inr ?_, .inr ?_, ?_, ?_, ?_, rfl⟩
    ·simp; intro a b hab; exact .inr (.inr (.inr (.inr (.inr ⟨_, hab⟩))))
    ·k_all
    ·k_all
    ·k_ne
    ·k_all
    ·k_all
 ) ?_
 intro q f
 simpa using f (default : (by exact Fin 1))

theorem ok9 : ∀ y, P9 y := Classical.choose_spec ex9 (by with_unfolding_all exact core9)
end cancel_h
theorem cancel_does {prog : Program} {w : World} {mean : ExcName → Option Value} {mg mb : Str → Option Value} {rest r : Led} {f : Led → Led}
  {ev ed q i er : Addr} {k : Nat → Tok} {nq ni : Nat} {now num : Int} {tn tm t : Tok} {qs is : List Value} {ds : List (Int × Int × Str)} {es : List (Int × Str)} {x : Str}
  (W : Tl r rest f) (o1 : ∀ p ∈ rest, p.1 ≠ ed) (d1 : ev ≠ ed) (d2 : q ≠ ed) (d3 : i ≠ ed) (d4 : q ≠ i) (D : DatAll r qs (ds.map tD)) (D2 : DatAll r is (es.map iD)) (hvs : ds.length + es.length < 60) (hnd : (ds.map (·.2.1) ++ es.map (·.1)).Nodup) (hbd : ∀ a ∈ allR ds es, 0 ≤ a.1 ∧ a.1 < 1000000) :
  Does prog w mean mg mb 255 [.ref ev, .str x t] 4 24 ((ev, instObj 265 ed) :: (ed, dictOf (evD w.params k now tn q i er num tm) 5) :: (q, listOf qs.toArray nq) :: (i, listOf is.toArray ni) :: rest)
   (fun v news' => ∃ (add : Led) (tgt : Option Int) (q' i' : Addr) (nq' ni' : Nat) (qs' is' : List Value), v = .none ∧ New ((ev, instObj 265 ed) :: (ed, dictOf (evD w.params k now tn q i er num tm) 5) :: (q, listOf qs.toArray nq) :: (i, listOf is.toArray ni) :: rest) add ∧
    Meets ds es x tgt ∧ DatAll (add ++ r) qs' ((offQ tgt ds).map tD) ∧ DatAll (add ++ r) is' ((offI tgt es).map iD) ∧
    (q' = q ∨ ∀ p ∈ (ev, instObj 265 ed) :: (ed, dictOf (evD w.params k now tn q i er num tm) 5) :: (q, listOf qs.toArray nq) :: (i, listOf is.toArray ni) :: rest, p.1 ≠ q') ∧
    (i' = i ∨ ∀ p ∈ (ev, instObj 265 ed) :: (ed, dictOf (evD w.params k now tn q i er num tm) 5) :: (q, listOf qs.toArray nq) :: (i, listOf is.toArray ni) :: rest, p.1 ≠ i') ∧ q' ≠ i' ∧ (∀ p ∈ add, p.1 ≠ q') ∧ (∀ p ∈ add, p.1 ≠ i') ∧
    news' = (ev, instObj 265 ed) :: (ed, dictOf (evD w.params k now tn q' i' er num tm) 5) :: (q', listOf qs'.toArray nq') :: (i', listOf is'.toArray ni') :: f (add ++ r)) := by
 intros dp un gd cn cs a ccd cl outer A₀ base h₀ L m s Q E
 exact cancel_h.ok9 (prog, w, mean, mg, mb, rest, r, f, ev, ed, q, i, er, k, nq, ni, now, num, tn, tm, t, qs, is, ds, es, x, (dp, un, gd, cn, cs, a, ccd, cl, outer, A₀, base, h₀, L, m, s, Q, E)) W o1 d1 d2 d3 d4 D D2 hvs hnd hbd
end
theorem In_C7.in_C7 : True := trivial
noncomputable section
open In_C7
theorem Tl.up {r l : Led} {f : Led → Led} (t : Tl r l f) {add : Led} : ∀ p ∈ l, p ∈ f (add ++ r) := by
 induction t with
 |nil => exact fun p hp => List.mem_append_right _ hp
 |cons _ ih =>
  intros q hq
  rcases List.mem_cons.mp hq with rfl | hq
  ·exact .head _
  ·exact .tail _ (ih q hq)
theorem Tl.add {r l : Led} {f : Led → Led} (t : Tl r l f) {add : Led} : ∀ p ∈ add, p ∈ f (add ++ r) := by
 induction t with
 |nil => exact fun p hp => List.mem_append_left _ hp
 |cons _ ih => exact fun q hq => .tail _ (ih q hq)
theorem tl_news {h₀ h : Heap} {L : Addr} {r rest add : Led} {f : Led → Led} (M : Led) (W : Tl r rest f) (N : News h₀ L h (M ++ f (add ++ r))) : News h₀ L h (M ++ (add ++ rest)) := fun p hp => by
 rcases List.mem_append.mp hp with hp | hp
 ·exact N p (List.mem_append_left _ hp)
 rcases List.mem_append.mp hp with hp | hp
 ·exact N p (List.mem_append_right _ (W.add p hp))
 ·exact N p (List.mem_append_right _ (W.up p hp))
structure EvS where
 now : Int
 num : Int
 q : List (Int × Int × Str)
 i : List (Int × Str)
 log : List Dat
 deriving Inhabited
structure EvC where
 q : Addr
 i : Addr
 er : Addr
 k : Nat → Tok
 tn : Tok
 tm : Tok
 nq : Nat
 ni : Nat
 nl : Nat
 qs : List Value
 is : List Value
 ls : List Value
 deriving Inhabited
noncomputable abbrev evL (P : Params) (ev ed lg : Addr) (c : EvC) (a : EvS) (t : Led) : Led :=
 (ev, instObj 265 ed) :: (ed, dictOf (evD P c.k a.now c.tn c.q c.i c.er a.num c.tm) 5) :: (c.q, listOf c.qs.toArray c.nq) :: (c.i, listOf c.is.toArray c.ni) :: (lg, listOf c.ls.toArray c.nl) :: t
structure EvRep (r : Led) (c : EvC) (a : EvS) : Prop where
 q : DatAll r c.qs (a.q.map tD)
 i : DatAll r c.is (a.i.map iD)
 l : DatAll r c.ls a.log
structure EvWf (a : EvS) : Prop where
 nd : (a.q.map (·.2.1) ++ a.i.map (·.1)).Nodup
 lo : ∀ t ∈ allR a.q a.i, 0 ≤ t.1 ∧ t.1 < a.num
 n0 : 0 ≤ a.num
 n1 : a.num < 999999
 few : a.q.length + a.i.length < 59
 log : a.log.length < 999999
noncomputable def Sep (ws : List Addr) (rest : Led) : Prop := ws.Nodup ∧ ∀ a ∈ ws, ∀ p ∈ rest, p.1 ≠ a
noncomputable def FreshOr (old : Led) (a a' : Addr) : Prop := a' = a ∨ ∀ p ∈ old, p.1 ≠ a'
noncomputable def DoneR (k wt : Int) (x : Str) (a b : EvS) : Prop :=
 (k = 0 ∧ ∃ c, c ≤ a.q.length ∧ (∀ (j : Nat) (hj : j < a.q.length), c ≤ j → a.now + wt < (a.q[j]).1) ∧ (∀ (j : Nat) (hj : j < a.q.length), j + 1 = c → (a.q[j]).1 ≤ a.now + wt) ∧
  b = { a with num := a.num + 1, q := a.q.take c ++ (a.now + wt, a.num, x) :: a.q.drop c, log := a.log ++ [.str (aft a.num)] }) ∨
 (k = 1 ∧ b = { a with num := a.num + 1, i := a.i ++ [(a.num, x)], log := a.log ++ [.str (aft a.num)] }) ∨
 (k = 2 ∧ ∃ tgt, Meets a.q a.i x tgt ∧ b = { a with q := offQ tgt a.q, i := offI tgt a.i }) ∨
 (k ≠ 0 ∧ k ≠ 1 ∧ k ≠ 2 ∧ b = { a with now := a.now + wt })
namespace law_done_h
noncomputable abbrev T9 : Type := Program × World × (ExcName → Option Value) × (Str → Option Value) × (Str → Option Value) × Led × Led × (Led → Led) × Addr × Addr × Addr × Addr × Nat × Addr × Addr × Addr × (Nat → Tok) × Tok × Tok × Nat × Nat × Nat × List Value × List Value × List Value × Int × Int × List (Int × Int × Str) × List (Int × Str) × List Dat × Int × Int × Str × Tok × Tok × Tok × Cx
noncomputable def S9 (prog : Program) (w : World) (mean : ExcName → Option Value) (mg : Str → Option Value) (mb : Str → Option Value) (rest : Led) (r : Led) (f : Led → Led) (ev : Addr) (ed : Addr) (lg : Addr) (ac : Addr) (na : Nat) (q : Addr) (i : Addr) (er : Addr) (kk : Nat → Tok) (tn : Tok) (tm : Tok) (nq : Nat) (ni : Nat) (nl : Nat) (qs : List Value) (is : List Value) (ls : List Value) (now : Int) (num : Int) (ds : List (Int × Int × Str)) (es : List (Int × Str)) (log : List Dat) (k : Int) (wt : Int) (x : Str) (t1 : Tok) (t2 : Tok) (t3 : Tok) (x9 : Cx) : Prop :=
 ∀ (W : Tl r rest f) (S : Sep [ev, ed, (⟨q, i, er, kk, tn, tm, nq, ni, nl, qs, is, ls⟩ : EvC).q, (⟨q, i, er, kk, tn, tm, nq, ni, nl, qs, is, ls⟩ : EvC).i, lg] rest) (R : EvRep r (⟨q, i, er, kk, tn, tm, nq, ni, nl, qs, is, ls⟩ : EvC) (⟨now, num, ds, es, log⟩ : EvS)) (wf : EvWf (⟨now, num, ds, es, log⟩ : EvS)) (ha : (ac, tupO [.int k t1, .int wt t2, .str x t3] na) ∈ rest), Does.at prog w mean mg mb 578 [.ref ev, .ref lg, .ref ac] 6 40 (evL w.params ev ed lg (⟨q, i, er, kk, tn, tm, nq, ni, nl, qs, is, ls⟩ : EvC) (⟨now, num, ds, es, log⟩ : EvS) rest)
   (fun v news' => ∃ add c' b, v = .none ∧ DoneR k wt x (⟨now, num, ds, es, log⟩ : EvS) b ∧ EvRep (add ++ r) c' b ∧ New (evL w.params ev ed lg (⟨q, i, er, kk, tn, tm, nq, ni, nl, qs, is, ls⟩ : EvC) (⟨now, num, ds, es, log⟩ : EvS) rest) add ∧ FreshOr (evL w.params ev ed lg (⟨q, i, er, kk, tn, tm, nq, ni, nl, qs, is, ls⟩ : EvC) (⟨now, num, ds, es, log⟩ : EvS) rest) (⟨q, i, er, kk, tn, tm, nq, ni, nl, qs, is, ls⟩ : EvC).q c'.q ∧ FreshOr (evL w.params ev ed lg (⟨q, i, er, kk, tn, tm, nq, ni, nl, qs, is, ls⟩ : EvC) (⟨now, num, ds, es, log⟩ : EvS) rest) (⟨q, i, er, kk, tn, tm, nq, ni, nl, qs, is, ls⟩ : EvC).i c'.i ∧
    (∀ p ∈ add, p.1 ≠ c'.q) ∧ (∀ p ∈ add, p.1 ≠ c'.i) ∧ c'.q ≠ c'.i ∧ c'.er = (⟨q, i, er, kk, tn, tm, nq, ni, nl, qs, is, ls⟩ : EvC).er ∧ news' = evL w.params ev ed lg c' b (f (add ++ r))) x9.1 x9.2.1 x9.2.2.1 x9.2.2.2.1 x9.2.2.2.2.1 x9.2.2.2.2.2.1 x9.2.2.2.2.2.2.1 x9.2.2.2.2.2.2.2.1 x9.2.2.2.2.2.2.2.2.1 x9.2.2.2.2.2.2.2.2.2.1 x9.2.2.2.2.2.2.2.2.2.2.1 x9.2.2.2.2.2.2.2.2.2.2.2.1 x9.2.2.2.2.2.2.2.2.2.2.2.2.1 x9.2.2.2.2.2.2.2.2.2.2.2.2.2.1 x9.2.2.2.2.2.2.2.2.2.2.2.2.2.2.1 x9.2.2.2.2.2.2.2.2.2.2.2.2.2.2.2.1 x9.2.2.2.2.2.2.2.2.2.2.2.2.2.2.2.2
noncomputable def P9 : T9 → Prop := cur fun prog => cur fun w => cur fun mean => cur fun mg => cur fun mb => cur fun rest => cur fun r => cur fun f => cur fun ev => cur fun ed => cur fun lg => cur fun ac => cur fun na => cur fun q => cur fun i => cur fun er => cur fun kk => cur fun tn => cur fun tm => cur fun nq => cur fun ni => cur fun nl => cur fun qs => cur fun is => cur fun ls => cur fun now => cur fun num => cur fun ds => cur fun es => cur fun log => cur fun k => cur fun wt => cur fun x => cur fun t1 => cur fun t2 => cur fun t3 => fun x9 => S9 prog w mean mg mb rest r f ev ed lg ac na q i er kk tn tm nq ni nl qs is ls now num ds es log k wt x t1 t2 t3 x9
theorem ex9 : ∃ x, P9 x → ∀ y, P9 y := drinker P9 (PySem.Challenge.rw_np0139_01.prog, w0, default, default, default, default, default, default, default, default, default, default, default, default, default, default, default, default, default, default, default, default, default, default, default, default, default, default, default, default, default, default, default, default, default, default, cx0)
@[irreducible] def c9 : T9 := Classical.choose ex9
@[irreducible] def prog := c9.1
@[irreducible] def w := c9.2.1
@[irreducible] def mean := c9.2.2.1
@[irreducible] def mg := c9.2.2.2.1
@[irreducible] def mb := c9.2.2.2.2.1
@[irreducible] def rest := c9.2.2.2.2.2.1
@[irreducible] def r := c9.2.2.2.2.2.2.1
@[irreducible] def f := c9.2.2.2.2.2.2.2.1
@[irreducible] def ev := c9.2.2.2.2.2.2.2.2.1
@[irreducible] def ed := c9.2.2.2.2.2.2.2.2.2.1
@[irreducible] def lg := c9.2.2.2.2.2.2.2.2.2.2.1
@[irreducible] def ac := c9.2.2.2.2.2.2.2.2.2.2.2.1
@[irreducible] def na := c9.2.2.2.2.2.2.2.2.2.2.2.2.1
@[irreducible] def q := c9.2.2.2.2.2.2.2.2.2.2.2.2.2.1
@[irreducible] def i := c9.2.2.2.2.2.2.2.2.2.2.2.2.2.2.1
@[irreducible] def er := c9.2.2.2.2.2.2.2.2.2.2.2.2.2.2.2.1
@[irreducible] def kk := c9.2.2.2.2.2.2.2.2.2.2.2.2.2.2.2.2.1
@[irreducible] def tn := c9.2.2.2.2.2.2.2.2.2.2.2.2.2.2.2.2.2.1
@[irreducible] def tm := c9.2.2.2.2.2.2.2.2.2.2.2.2.2.2.2.2.2.2.1
@[irreducible] def nq := c9.2.2.2.2.2.2.2.2.2.2.2.2.2.2.2.2.2.2.2.1
@[irreducible] def ni := c9.2.2.2.2.2.2.2.2.2.2.2.2.2.2.2.2.2.2.2.2.1
@[irreducible] def nl := c9.2.2.2.2.2.2.2.2.2.2.2.2.2.2.2.2.2.2.2.2.2.1
@[irreducible] def qs := c9.2.2.2.2.2.2.2.2.2.2.2.2.2.2.2.2.2.2.2.2.2.2.1
@[irreducible] def is := c9.2.2.2.2.2.2.2.2.2.2.2.2.2.2.2.2.2.2.2.2.2.2.2.1
@[irreducible] def ls := c9.2.2.2.2.2.2.2.2.2.2.2.2.2.2.2.2.2.2.2.2.2.2.2.2.1
@[irreducible] def now := c9.2.2.2.2.2.2.2.2.2.2.2.2.2.2.2.2.2.2.2.2.2.2.2.2.2.1
@[irreducible] def num := c9.2.2.2.2.2.2.2.2.2.2.2.2.2.2.2.2.2.2.2.2.2.2.2.2.2.2.1
@[irreducible] def ds := c9.2.2.2.2.2.2.2.2.2.2.2.2.2.2.2.2.2.2.2.2.2.2.2.2.2.2.2.1
@[irreducible] def es := c9.2.2.2.2.2.2.2.2.2.2.2.2.2.2.2.2.2.2.2.2.2.2.2.2.2.2.2.2.1
@[irreducible] def log := c9.2.2.2.2.2.2.2.2.2.2.2.2.2.2.2.2.2.2.2.2.2.2.2.2.2.2.2.2.2.1
@[irreducible] def k := c9.2.2.2.2.2.2.2.2.2.2.2.2.2.2.2.2.2.2.2.2.2.2.2.2.2.2.2.2.2.2.1
@[irreducible] def wt := c9.2.2.2.2.2.2.2.2.2.2.2.2.2.2.2.2.2.2.2.2.2.2.2.2.2.2.2.2.2.2.2.1
@[irreducible] def x := c9.2.2.2.2.2.2.2.2.2.2.2.2.2.2.2.2.2.2.2.2.2.2.2.2.2.2.2.2.2.2.2.2.1
@[irreducible] def t1 := c9.2.2.2.2.2.2.2.2.2.2.2.2.2.2.2.2.2.2.2.2.2.2.2.2.2.2.2.2.2.2.2.2.2.1
@[irreducible] def t2 := c9.2.2.2.2.2.2.2.2.2.2.2.2.2.2.2.2.2.2.2.2.2.2.2.2.2.2.2.2.2.2.2.2.2.2.1
@[irreducible] def t3 := c9.2.2.2.2.2.2.2.2.2.2.2.2.2.2.2.2.2.2.2.2.2.2.2.2.2.2.2.2.2.2.2.2.2.2.2.1
@[irreducible] def x9 := c9.2.2.2.2.2.2.2.2.2.2.2.2.2.2.2.2.2.2.2.2.2.2.2.2.2.2.2.2.2.2.2.2.2.2.2.2
abbrev a := x9.2.2.2.2.2.1
theorem core9 : S9 prog w mean mg mb rest r f ev ed lg ac na q i er kk tn tm nq ni nl qs is ls now num ds es log k wt x t1 t2 t3 x9 := by
 refine wr_z (by
 intro W S R wf ha B F X T N hk hd hu hret
 obtain ⟨D, D2, D3⟩ := R
 obtain ⟨hnd, hlo, hn0, hn1, hfew, hlog⟩ := wf
 dsimp only at D D2 D3 hnd hlo hn0 hn1 hfew hlog S
 have hsub : ∀ p ∈ r, p ∈ rest := W.sub
 have hl : qs.length = ds.length := by rw [D.length, List.length_map]
 have hl2 : is.length = es.length := by rw [D2.length, List.length_map]
 have hl3 : ls.length = log.length := D3.length
 f_tup
 (revert S; km_mul s1; intro s2)
 simp only [List.nodup_cons, List.mem_cons, List.not_mem_nil, or_false, not_or, List.nodup_nil, and_true, not_false_eq_true] at s1
 f_tup
 (revert s1; k_extra "st"; km_mul x1; km_mul x2; km_mul x3; intro x4; k_extra "st"; km_mul x5; km_mul x6; intro x7; k_extra "st"; km_mul x8; intro x9; intro x10)
 have o1 := s2 ev (by first | k_mem | simp)
 have o2 := s2 ed (by first | k_mem | simp)
 have o3 := s2 q (by first | k_mem | simp)
 have o4 := s2 i (by first | k_mem | simp)
 have o5 := s2 lg (by first | k_mem | simp)
 simp only [evL] at N hret ⊢
 refine wpAny_call ?_
 k_dflt ktr_enter
 k_with "call ref" => ((fail_if_success (fail_if_success (have h9 := in_C7))); ((refine Stop.out ?_)))
 f_tup
 k_steps
 ·refine Stop.mk ?_
  f_tup
  rename News _ _ _ _ => N9
  rename Fr _ _ _ _ => F9
  refine Does.use (by k_asm) F9 (by k_asm) (by k_asm) N9 rfl (after_does (.cons (.cons W)) (by k_all) (by k_all) x1 x2 x5 D hn0 hn1 (by w_how)) (by ktr_room) (by ktr_units) ?_
  clear N9 F9
  intro v9 h9 tk9 news9 F9 N9
  (km_mul add; km_mul t'; km_mul tm'; km_mul vs'; km_mul nq'; km_mul c; k_extra "st"; k_extra "sr"; km_mul hnew; km_mul hc0; km_mul hc1; km_mul hc2; km_mul hD'; k_extra "sr")
  f_tup
  have N8 := tl_news [_, _, _, _, _] W N9
  clear N9
  dsimp only [List.cons_append, List.nil_append] at N8
  f_tup
  k_steps
  rename News _ _ _ _ => N7
  refine hret _ _ _ _ (by assumption) (fin_news [_, _, _, _, _] add W (fun p hp => N7 p (by revert p hp; dsimp only [List.cons_append, List.nil_append]; kqd_sub)))
   ⟨add, ⟨q, i, er, kk, tn, tm', nq', ni, _, vs', is, _⟩, ⟨now, num + 1, _, es, log ++ [.str (aft num)]⟩, rfl, .inl ⟨by assumption, c, hc0, hc1, hc2, rfl⟩, ⟨hD', D2.mono fun p hp => List.mem_append_right _ hp, ?_⟩, hnew, .inl rfl, .inl rfl, New.off hnew (by k_mem), New.off hnew (by k_mem), x8, rfl, rfl⟩
  dsimp only
  first | rw [List.concat_eq_append] | rw [Array.toList_push]
  exact (D3.mono fun p hp => List.mem_append_right _ hp).append (.one (.str _ _))
 ·refine Stop.mk ?_
  f_tup
  rename News _ _ _ _ => N9
  rename Fr _ _ _ _ => F9
  have N8 := take3 N9 .head .head (.tail .head)
  clear N9
  refine Does.use (by k_asm) F9 (by k_asm) (by k_asm) N8 rfl (when_idle_does (.cons (.cons W)) (by k_all) (by k_all) x1 x3 x6 D2 hn0 hn1 (by w_how)) (by ktr_room) (by ktr_units) ?_
  clear N8 F9
  intro v9 h9 tk9 news9 F9 N9
  (km_mul add; km_mul t'; km_mul tm'; km_mul vs'; km_mul nq'; k_extra "st"; k_extra "sr"; km_mul hnew; km_mul hD'; k_extra "sr")
  f_tup
  have N8 := tl_news [_, _, _, _, _] W N9
  clear N9
  dsimp only [List.cons_append, List.nil_append] at N8
  f_tup
  k_steps
  rename News _ _ _ _ => N7
  have hnew2 : New ((ev, instObj 265 ed) :: (ed, dictOf (evD w.params kk now tn q i er num tm) 5) :: (q, listOf qs.toArray nq) :: (i, listOf is.toArray ni) :: (lg, listOf ls.toArray nl) :: rest) add := new_sub hnew (by kqd_sub)
  refine hret _ _ _ _ (by assumption) (fin_news [_, _, _, _, _] add W (fun p hp => N7 p (by revert p hp; dsimp only [List.cons_append, List.nil_append]; kqd_sub)))
   ⟨add, ⟨q, i, er, kk, tn, tm', nq, nq', _, qs, vs', _⟩, ⟨now, num + 1, ds, _, log ++ [.str (aft num)]⟩, rfl, .inr (.inl ⟨by assumption, rfl⟩), ⟨D.mono fun p hp => List.mem_append_right _ hp, hD', ?_⟩, hnew2, .inl rfl, .inl rfl, New.off hnew2 (by k_mem), New.off hnew2 (by k_mem), x8, rfl, rfl⟩
  dsimp only
  first | rw [List.concat_eq_append] | rw [Array.toList_push]
  exact (D3.mono fun p hp => List.mem_append_right _ hp).append (.one (.str _ _))
 ·refine Stop.mk ?_
  f_tup
  rename News _ _ _ _ => N9
  rename Fr _ _ _ _ => F9
  refine Does.use (by k_asm) F9 (by k_asm) (by k_asm) N9 rfl (cancel_does (.cons W) (by k_all) x1 (Ne.symm x5) (Ne.symm x6) x8 D D2 (by w_how) hnd (fun a ha => ⟨(hlo a ha).1, by have := (hlo a ha).2; w_how⟩)) (by ktr_room) (by ktr_units) ?_
  clear N9 F9
  intro v9 h9 tk9 news9 F9 N9
  (km_mul add; km_mul tgt; km_mul q'; km_mul i'; km_mul nq'; km_mul ni'; km_mul qs'; km_mul is'; k_extra "st"; k_extra "sr"; km_mul hnew; km_mul hM; km_mul hD'; km_mul hD2'; km_mul hq'; km_mul hi'; km_mul hqi; km_mul hq2; km_mul hi2; k_extra "sr")
  f_tup
  have N8 := tl_news [_, _, _, _, _] W N9
  clear N9
  dsimp only [List.cons_append, List.nil_append] at N8
  f_tup
  k_steps
  rename News _ _ _ _ => N7
  refine hret _ _ _ _ (by assumption) (fin_news [_, _, _, _, _] add W (fun p hp => N7 p (by revert p hp; dsimp only [List.cons_append, List.nil_append]; kqd_sub)))
   ⟨add, ⟨q', i', er, kk, tn, tm, nq', ni', nl, qs', is', ls⟩, ⟨now, num, _, _, log⟩, rfl, .inr (.inr (.inl ⟨by assumption, tgt, hM, rfl⟩)), ⟨hD', hD2', D3.mono fun p hp => List.mem_append_right _ hp⟩, hnew, hq', hi', hq2, hi2, hqi, rfl, rfl⟩
 ·k_steps
  rename News _ _ _ _ => N7
  refine hret _ _ _ _ (by assumption) (fin_news [_, _, _, _, _] [] W (fun p hp => N7 p (by revert p hp; dsimp only [List.cons_append, List.nil_append]; kqd_sub)))
   ⟨[], ⟨q, i, er, kk, _, tm, nq, ni, nl, qs, is, ls⟩, ⟨now + wt, num, ds, es, log⟩, rfl, .inr (.inr (.inr ⟨by assumption, by assumption, by assumption, rfl⟩)), ⟨D, D2, D3⟩, new_nil, .inl rfl, .inl rfl, (fun _ h => nomatch h), (fun _ h => nomatch h), x8, rfl, rfl⟩
 ) ?_
 intro q f
 simpa using f (default : (by exact Fin 1))

theorem ok9 : ∀ y, P9 y := Classical.choose_spec ex9 (by with_unfolding_all exact core9)
end law_done_h
theorem law_done_does {prog : Program} {w : World} {mean : ExcName → Option Value} {mg mb : Str → Option Value} {rest r : Led} {f : Led → Led}
  {ev ed lg ac : Addr} {na : Nat} {c : EvC} {a : EvS} {k wt : Int} {x : Str} {t1 t2 t3 : Tok}
  (W : Tl r rest f) (S : Sep [ev, ed, c.q, c.i, lg] rest) (R : EvRep r c a) (wf : EvWf a) (ha : (ac, tupO [.int k t1, .int wt t2, .str x t3] na) ∈ rest) :
  Does prog w mean mg mb 578 [.ref ev, .ref lg, .ref ac] 6 40 (evL w.params ev ed lg c a rest)
   (fun v news' => ∃ add c' b, v = .none ∧ DoneR k wt x a b ∧ EvRep (add ++ r) c' b ∧ New (evL w.params ev ed lg c a rest) add ∧ FreshOr (evL w.params ev ed lg c a rest) c.q c'.q ∧ FreshOr (evL w.params ev ed lg c a rest) c.i c'.i ∧
    (∀ p ∈ add, p.1 ≠ c'.q) ∧ (∀ p ∈ add, p.1 ≠ c'.i) ∧ c'.q ≠ c'.i ∧ c'.er = c.er ∧ news' = evL w.params ev ed lg c' b (f (add ++ r))) := by
 obtain ⟨q, i, er, kk, tn, tm, nq, ni, nl, qs, is, ls⟩ := c
 obtain ⟨now, num, ds, es, log⟩ := a
 intros dp un gd cn cs a ccd cl outer A₀ base h₀ L m s Q E
 exact law_done_h.ok9 (prog, w, mean, mg, mb, rest, r, f, ev, ed, lg, ac, na, q, i, er, kk, tn, tm, nq, ni, nl, qs, is, ls, now, num, ds, es, log, k, wt, x, t1, t2, t3, (dp, un, gd, cn, cs, a, ccd, cl, outer, A₀, base, h₀, L, m, s, Q, E)) W S R wf ha
end
theorem In_C8.in_C8 : True := trivial
noncomputable section
open In_C8 Off9
theorem Tl.of {r : Led} : ∀ (mt : Led), Tl r (mt ++ r) (fun t => mt ++ t)
 |[] => .nil
 |_ :: mt => .cons (Tl.of mt)
noncomputable def Off (as : List Addr) (add : Led) : Prop := ∀ p ∈ add, p.1 ∉ as
structure Loose (as : List Addr) (c : EvC) : Prop where
 q : c.q ∉ as
 i : c.i ∉ as
 qi : c.q ≠ c.i
noncomputable abbrev fx (ev ed lg : Addr) (t : Led) : List Addr := ev :: ed :: lg :: t.map (·.1)
structure Fix (ev ed lg : Addr) (t : Led) : Prop where
 a : ev ≠ ed
 b : ev ≠ lg
 c : ed ≠ lg
 ev : ∀ p ∈ t, p.1 ≠ ev
 ed : ∀ p ∈ t, p.1 ≠ ed
 lg : ∀ p ∈ t, p.1 ≠ lg
theorem Fix.sub {ev ed lg : Addr} {t t' : Led} (h : Fix ev ed lg t) (hs : ∀ p ∈ t', p.1 ∈ t.map (·.1)) : Fix ev ed lg t' := by
 obtain ⟨a, b, c, d, e, f⟩ := h
 have key : ∀ {x : Addr}, (∀ p ∈ t, p.1 ≠ x) → ∀ p ∈ t', p.1 ≠ x := fun h p hp e => by
  obtain ⟨q, hq, e'⟩ := List.mem_map.mp (hs p hp)
  exact h q hq (e'.trans e)
 exact ⟨a, b, c, key d, key e, key f⟩
theorem Fix.add {ev ed lg : Addr} {t add : Led} (h : Fix ev ed lg t) (o : Off (fx ev ed lg t) add) : Fix ev ed lg (add ++ t) := by
 obtain ⟨a, b, c, d, e, f⟩ := h
 refine ⟨a, b, c, fun p hp => ?_, fun p hp => ?_, fun p hp => ?_⟩ <;> rcases List.mem_append.mp hp with hp | hp
 ·exact fun z => o p hp (by rw [z]; simp)
 ·exact d p hp
 ·exact fun z => o p hp (by rw [z]; simp)
 ·exact e p hp
 ·exact fun z => o p hp (by rw [z]; simp)
 ·exact f p hp
theorem Loose.sub {as as' : List Addr} {c : EvC} (h : Loose as c) (hs : ∀ a ∈ as', a ∈ as) : Loose as' c := ⟨fun z => h.q (hs _ z), fun z => h.i (hs _ z), h.qi⟩
theorem Off.sub {as as' : List Addr} {l : Led} (h : Off as l) (hs : ∀ a ∈ as', a ∈ as) : Off as' l := fun p hp z => h p hp (hs _ z)
theorem Off.app {as : List Addr} {l l' : Led} (h : Off as l) (h' : Off as l') : Off as (l ++ l') := fun p hp => (List.mem_append.mp hp).elim (h p) (h' p)
theorem off_nil {as : List Addr} : Off as [] := fun _ hp => nomatch hp
theorem sep_of {ev ed lg : Addr} {t : Led} {c : EvC} (h : Fix ev ed lg t) (l : Loose (fx ev ed lg t) c) : Sep [ev, ed, c.q, c.i, lg] t := by
 revert ev ed lg t c h l
 intro ev ed lg t c h l
 obtain ⟨a, b, c', d, e, f⟩ := h
 obtain ⟨x, y, z⟩ := l
 simp only [fx, List.mem_cons, List.mem_map, not_or, not_exists, not_and] at x y
 refine ⟨?_, fun w hw p hp => ?_⟩
 ·simp only [List.nodup_cons, List.mem_cons, List.not_mem_nil, or_false, not_or, List.nodup_nil, and_true, not_false_eq_true]
  exact ⟨⟨a, Ne.symm x.1, Ne.symm y.1, b⟩, ⟨Ne.symm x.2.1, Ne.symm y.2.1, c'⟩, ⟨z, x.2.2.1⟩, y.2.2.1⟩
 ·simp only [List.mem_cons, List.not_mem_nil, or_false] at hw
  rcases hw with rfl | rfl | rfl | rfl | rfl
  ·exact d p hp
  ·exact e p hp
  ·exact fun q => x.2.2.2 p hp q
  ·exact fun q => y.2.2.2 p hp q
  ·exact f p hp
structure EvB (a : EvS) (n : Nat) : Prop where
 nd : (a.q.map (·.2.1) ++ a.i.map (·.1)).Nodup
 lo : ∀ t ∈ allR a.q a.i, 0 ≤ t.1 ∧ t.1 < a.num
 n0 : 0 ≤ a.num
 n1 : a.num + n ≤ 999999
 few : a.q.length + a.i.length + n ≤ 59
 log : a.log.length + n ≤ 999999
theorem EvB.wf {a : EvS} {n : Nat} (h : EvB a (n + 1)) : EvWf a := ⟨h.nd, h.lo, h.n0, by have := h.n1; w_how, by have := h.few; w_how, by have := h.log; w_how⟩
theorem EvB.less {a : EvS} {n m : Nat} (h : EvB a n) (hm : m ≤ n) : EvB a m := ⟨h.nd, h.lo, h.n0, by have := h.n1; w_how, by have := h.few; w_how, by have := h.log; w_how⟩
theorem EvB.nums {a : EvS} {n : Nat} (h : EvB a n) : ∀ m ∈ a.q.map (·.2.1) ++ a.i.map (·.1), 0 ≤ m ∧ m < a.num := by
 intros m hm
 rcases List.mem_append.mp hm with hm | hm <;> obtain ⟨t, ht, rfl⟩ := List.mem_map.mp hm
 ·exact h.lo (t.2.1, t.2.2, Str.ofString "timer") (List.mem_append_left _ (List.mem_map_of_mem (f := fun t : Int × Int × Str => (t.2.1, t.2.2, Str.ofString "timer")) ht))
 ·exact h.lo (t.1, t.2, Str.ofString "idle") (List.mem_append_right _ (List.mem_map_of_mem (f := fun t : Int × Str => (t.1, t.2, Str.ofString "idle")) ht))
theorem evB_of {a : EvS} {n : Nat} (nd : (a.q.map (·.2.1) ++ a.i.map (·.1)).Nodup) (lo : ∀ m ∈ a.q.map (·.2.1) ++ a.i.map (·.1), 0 ≤ m ∧ m < a.num) (n0 : 0 ≤ a.num) (n1 : a.num + n ≤ 999999) (few : a.q.length + a.i.length + n ≤ 59) (log : a.log.length + n ≤ 999999) : EvB a n :=
 ⟨nd, fun t ht => by
  rcases List.mem_append.mp ht with ht | ht <;> obtain ⟨u, hu, rfl⟩ := List.mem_map.mp ht
  ·exact lo _ (List.mem_append_left _ (List.mem_map_of_mem (f := fun t : Int × Int × Str => t.2.1) hu))
  ·exact lo _ (List.mem_append_right _ (List.mem_map_of_mem (f := fun t : Int × Str => t.1) hu)), n0, n1, few, log⟩
theorem done_B {k wt : Int} {x : Str} {a b : EvS} {n : Nat} (h : DoneR k wt x a b) (w : EvB a (n + 1)) : EvB b n := by
 revert k wt x a b n h w
 intro k wt x a b n h w
 have hn := w.nums
 have n0 := w.n0
 have n1 := w.n1
 have n2 := w.few
 have n3 := w.log
 have nd := w.nd
 rcases h with ⟨_, c, hc, _, _, rfl⟩ | ⟨_, rfl⟩ | ⟨_, tgt, _, rfl⟩ | ⟨_, _, _, rfl⟩
 ·have hp : (((a.q.take c ++ (a.now + wt, a.num, x) :: a.q.drop c).map (·.2.1)) ++ a.i.map (·.1)).Perm (a.num :: (a.q.map (·.2.1) ++ a.i.map (·.1))) := by
   rw [← List.cons_append]
   refine List.Perm.append_right _ ?_
   rw [List.map_append, List.map_cons]
   refine List.perm_middle.trans (List.Perm.cons _ ?_)
   rw [← List.map_append, List.take_append_drop]
  refine evB_of ?_ (fun m hm => ?_) ?_ ?_ ?_ ?_
  ·dsimp only
   rw [hp.nodup_iff, List.nodup_cons]
   exact ⟨fun hm => by have := (hn _ hm).2; w_how, nd⟩
  ·dsimp only at hm ⊢
   rcases List.mem_cons.mp (hp.mem_iff.mp hm) with rfl | hm
   ·w_how
   ·have := hn m hm; w_how
  ·dsimp only; w_how
  ·dsimp only; w_how
  ·dsimp only; simp only [List.length_append, List.length_cons, List.length_take, List.length_drop]; w_how
  ·dsimp only; simp only [List.length_append, List.length_cons, List.length_nil]; w_how
 ·refine evB_of ?_ (fun m hm => ?_) ?_ ?_ ?_ ?_
  ·dsimp only
   rw [List.map_append, ← List.append_assoc, List.map_cons, List.map_nil, List.nodup_append]
   refine ⟨nd, by simp, fun m hm y hy => ?_⟩
   rw [List.mem_singleton] at hy
   have := (hn m hm).2
   w_how
  ·dsimp only at hm ⊢
   rw [List.map_append, ← List.append_assoc] at hm
   rcases List.mem_append.mp hm with hm | hm
   ·have := hn m hm; w_how
   ·simp at hm; w_how
  ·dsimp only; w_how
  ·dsimp only; w_how
  ·dsimp only; simp only [List.length_append, List.length_cons, List.length_nil]; w_how
  ·dsimp only; simp only [List.length_append, List.length_cons, List.length_nil]; w_how
 ·have s1 : ((offQ tgt a.q).map (·.2.1)).Sublist (a.q.map (·.2.1)) := (List.filter_sublist).map _
  have s2 : ((offI tgt a.i).map (·.1)).Sublist (a.i.map (·.1)) := (List.filter_sublist).map _
  have hs := s1.append s2
  have l1 := s1.length_le
  have l2 := s2.length_le
  simp only [List.length_map] at l1 l2
  refine evB_of (nd.sublist hs) (fun m hm => hn m (hs.subset hm)) n0 ?_ ?_ ?_
  ·dsimp only; w_how
  ·dsimp only; w_how
  ·dsimp only; w_how
 ·refine evB_of nd hn n0 ?_ ?_ ?_
  ·dsimp only; w_how
  ·dsimp only; w_how
  ·dsimp only; w_how
theorem law_done2 {prog : Program} {w : World} {mean : ExcName → Option Value} {mg mb : Str → Option Value} {mt r : Led}
  {ev ed lg ac : Addr} {na n : Nat} {c : EvC} {a : EvS} {k wt : Int} {x : Str} {t1 t2 t3 : Tok}
  (S : Fix ev ed lg (mt ++ r)) (Z : Loose (fx ev ed lg (mt ++ r)) c) (R : EvRep r c a) (wf : EvB a (n + 1)) (ha : (ac, tupO [.int k t1, .int wt t2, .str x t3] na) ∈ mt ++ r) :
  Does prog w mean mg mb 578 [.ref ev, .ref lg, .ref ac] 6 40 (evL w.params ev ed lg c a (mt ++ r))
   (fun v news' => ∃ add c' b, v = .none ∧ DoneR k wt x a b ∧ EvB b n ∧ EvRep (add ++ r) c' b ∧ Off (fx ev ed lg (mt ++ r)) add ∧ Loose (add.map (·.1) ++ fx ev ed lg (mt ++ r)) c' ∧ c'.er = c.er ∧ news' = evL w.params ev ed lg c' b (mt ++ (add ++ r))) := by
 revert prog w mean mg mb mt r ev ed lg ac na n c a k wt x t1 t2 t3 S Z R wf ha
 intro prog w mean mg mb mt r ev ed lg ac na n c a k wt x t1 t2 t3 S Z R wf ha
 intros dp un gd cn cs a' ccd cl outer A₀ base h₀ L m s Q E B F X T N hk hd hu hret
 refine law_done_does (Tl.of mt) (sep_of S Z) R wf.wf ha dp un gd cn cs a' ccd cl outer A₀ base h₀ L m s Q E B F X T N hk hd hu fun v h' tk' news' F' N' hp => hret v h' tk' news' F' N' ?_
 obtain ⟨add, c', b, e1, hD, e2, hnew, fq, fi, aq, ai, qi, er, e3⟩ := hp
 have old : ∀ y ∈ fx ev ed lg (mt ++ r), ∃ o, (y, o) ∈ evL w.params ev ed lg c a (mt ++ r) := by
  intros y hy
  simp only [fx, List.mem_cons, List.mem_map] at hy
  rcases hy with rfl | rfl | rfl | ⟨p, hp, rfl⟩
  ·exact ⟨_, .head _⟩
  ·exact ⟨_, .tail _ (.head _)⟩
  ·exact ⟨_, .tail _ (.tail _ (.tail _ (.tail _ (.head _))))⟩
  ·exact ⟨p.2, .tail _ (.tail _ (.tail _ (.tail _ (.tail _ hp))))⟩
 refine ⟨add, c', b, e1, hD, done_B hD wf, e2, fun p hp z => ?_, ⟨fun z => ?_, fun z => ?_, qi⟩, er, e3⟩
 ·obtain ⟨o, ho⟩ := old _ z
  exact hnew p hp _ ho rfl
 ·rcases List.mem_append.mp z with z | z
  ·obtain ⟨p, hp, e⟩ := List.mem_map.mp z
   exact aq p hp e
  ·rcases fq with e | fq
   ·rw [e] at z; exact Z.q z
   ·obtain ⟨o, ho⟩ := old _ z
    exact fq _ ho rfl
 ·rcases List.mem_append.mp z with z | z
  ·obtain ⟨p, hp, e⟩ := List.mem_map.mp z
   exact ai p hp e
  ·rcases fi with e | fi
   ·rw [e] at z; exact Z.i z
   ·obtain ⟨o, ho⟩ := old _ z
    exact fi _ ho rfl
end
theorem In_D0.in_D0 : True := trivial
noncomputable section
open In_D0 Off9 Noi9
noncomputable abbrev tbO (head : Value) (L : Addr) (pl : List Value) : Obj := { cls := .type "traceback", dict := none, data := .fields ([head, .ref L, .none, rawInt L, .none] ++ (if pl.isEmpty then List.replicate 6 Value.none else pl)).toArray }
section
variable {M : Model} {A₀ : Around} {E : Value → Shared → Prop} {s : Shared} {base g h h' : Heap} {outer : List Env} {L a e : Addr} {m : Str → Option Value} {name : Str} {scope : Scope} {cd : Value} {news : Led}

theorem fr_turn {h₁ : Heap} (K : Below A₀ base outer g) (F : Fr g L h m) (N : News g L h news) (hs : Heap.SlotsOnly ((envOf name scope L a cd :: outer).filterMap (·.frame)) h h₁) :
  ∃ g', KtsTurn (outer.filterMap (·.frame)) g g' ∧ Fr g' L h₁ m ∧ News g' L h₁ news ∧ Below A₀ base outer g' := by
 have nL := kts_self F
 obtain ⟨T, S⟩ := kts_turn_at (h := h₁) (fs := outer.filterMap (·.frame)) (g := g)
  (fun b hb => by
   obtain ⟨_, o, ho, _⟩ := K.frames.mem hb
   exact ⟨o, ho⟩)
  (fun b o q nm => (hs.2.1 b (fun hm => by
   rcases kts_mem hm with z | z
   ·rw [z, nL] at q; cases q
   ·exact nm z)).trans (F.keep b o q))
  (fun b o q _ => hs.2.2 b o (F.keep b o q))
 have up : h.UpToSlots h₁ := fun b o q _ => hs.2.2 b o q
 refine ⟨_, T, ⟨up.ns F.ns, S, by rw [T.size]; exact F.above⟩, fun p hp => ⟨(hs.2.1 p.1 (fun hm => ?_)).trans (N p hp).1, (N p hp).2.1, T.none_ _ (N p hp).2.2⟩, ⟨K.stack, fun b o q => T.other b o (K.stays b o q) (fun hm => ?_), K.frames.of_keeps fun b o q _ => ?_⟩⟩
 ·rcases kts_mem hm with z | z
  ·exact (N p hp).2.1 z
  ·obtain ⟨_, o, ho, _⟩ := K.frames.mem z
   rw [(N p hp).2.2] at ho; cases ho
 ·rw [(K.frames.mem hm).1] at q; cases q
 ·obtain ⟨sl, hs'⟩ := T.up q
  exact ⟨_, hs', rfl⟩

theorem note_entry {oe : Obj} {vs : Array Value} {hn : Bool} {head : Value} {Q : Unit → Shared → Prop} (K : Below A₀ base outer g) (F : Fr g L s.heap m) (N : News g L s.heap ((e, oe) :: news)) (hd : oe.data = .fields vs) (hsz : 1 < vs.size) (a1 : ∀ p ∈ news, p.1 ≠ e)
  (hQ : ∀ g' h' T oT ts, KtsTurn (outer.filterMap (·.frame)) g g' → Fr g' L h' m → Below A₀ base outer g' → News g' L h' ((e, oe.mapFields (·.setIfInBounds 1 (.ref T))) :: (T, oT) :: news) → oT.data = .fields ts → ts[3]? = some (rawInt L) → T ≠ e → (∀ p ∈ news, p.1 ≠ T) → Q () { s with heap := h' })
  (hk : scope.kind = .function) :
  wpAny M (A₀.deeper (envOf name scope L a cd)) (do let a ← frameOf (envOf name scope L a cd); let pl ← entryPlaceOf L hn; let b ← EntryCells.newEntry head a .none (rawInt L) .none pl; setField (.ref e) 1 b) Q E s := by
 have K' := K.push (name := name) (a := a) (cd := cd) F hk
 refine wpAny_bind (wpAny_frameOf_fun K'.stack K'.frames rfl fun h₁ hs₁ => ?_)
 obtain ⟨g', T', F', N', B'⟩ := fr_turn K F N hs₁
 refine wpAny_bind (wpAny_entryPlaceOf fun pl hpl => ?_)
 unfold EntryCells.newEntry newFields
 refine wpAny_bind (wpAny_newObj_type ?_ (hpl.sizeOk5 _ _ _ _ _))
 have F2 := F'.push (tbO head L pl)
 have N2 := N'.push F' (tbO head L pl)
 have lt : ∀ p ∈ (e, oe) :: news, p.1 < h₁.objs.size := fun p hp => Heap.lt_size (N' p hp).1
 have le := lt _ (.head _)
 refine wpAny_setField (N2 _ (.tail _ (.head _))).1 hd hsz ?_
 have hd3 := Obj.data_mapFields hd (·.setIfInBounds 1 (Value.ref h₁.objs.size))
 obtain ⟨F3, N3⟩ := news_upd (pre := [_]) (f := Obj.mapFields (·.setIfInBounds 1 (Value.ref h₁.objs.size))) F2 N2 (fun p hp => by rw [List.mem_singleton.mp hp]; exact Nat.ne_of_gt le) a1 rfl (Obj.isFreed_of_fields hd3)
 refine hQ g' _ h₁.objs.size (tbO head L pl) _ T' F3 B' (fun p hp => N3 p ?_) rfl ?_ (Nat.ne_of_gt le) fun p hp => Nat.ne_of_lt (lt _ (.tail _ hp))
 ·rcases List.mem_cons.mp hp with rfl | hp
  ·simp
  rcases List.mem_cons.mp hp with rfl | hp
  ·simp
  ·simp [hp]
 ·rfl
end

theorem dict_mapF (f : Array Value → Array Value) (o : Obj) : (o.mapFields f).dict = o.dict := by
 unfold Obj.mapFields; split <;> rfl
noncomputable def NsO (od : Obj) (mA : Str → Option Value) : Prop := ∃ es ep, od.data = .dict es ep ∧ StrKeys es ∧ UniqKeys es ∧ ∀ name, nsFind es name = mA name

structure Born (mA : Str → Option Value) (e dx : Addr) (oe od : Obj) (news : Led) : Prop where
 cls : oe.cls = .ref 84
 dict : oe.dict = some dx
 fld : ∃ vs, oe.data = .fields vs ∧ vs[1]? = some .none
 ns : NsO od mA
 a1 : ∀ p ∈ (dx, od) :: news, p.1 ≠ e
 a3 : ∀ p ∈ news, p.1 ≠ dx

structure Fly (mA : Str → Option Value) (fl : Value) (e T dx : Addr) (oe oT od : Obj) (news : Led) : Prop where
 cls : oe.cls = .ref 84
 dict : oe.dict = some dx
 fld : ∃ vs, oe.data = .fields vs ∧ vs[1]? = some (.ref T)
 tb : ∃ ts, oT.data = .fields ts ∧ ts[3]? = some fl
 ns : NsO od mA
 ne : T ≠ e
 a1 : ∀ p ∈ (dx, od) :: news, p.1 ≠ e
 a2 : ∀ p ∈ (dx, od) :: news, p.1 ≠ T
 a3 : ∀ p ∈ news, p.1 ≠ dx

section
variable {M : Model} {A₀ A : Around} {E : Value → Shared → Prop} {s : Shared} {base g h h' : Heap} {outer : List Env} {L a e dx T : Addr} {m mA : Str → Option Value} {name : Str} {scope : Scope} {cd fl : Value} {news : Led} {oe od oT : Obj}

theorem note_born {Q : Unit → Shared → Prop} (K : Below A₀ base outer g) (F : Fr g L s.heap m) (N : News g L s.heap ((e, oe) :: (dx, od) :: news)) (b : Born mA e dx oe od news) (hk : scope.kind = .function)
  (hQ : ∀ g' h' T oe' oT, KtsTurn (outer.filterMap (·.frame)) g g' → Fr g' L h' m → Below A₀ base outer g' → News g' L h' ((e, oe') :: (T, oT) :: (dx, od) :: news) → Fly mA (rawInt L) e T dx oe' oT od news → Q () { s with heap := h' }) :
  wpAny M (A₀.deeper (envOf name scope L a cd)) (noteFrame (.ref e) (envOf name scope L a cd)) Q E s := by
 obtain ⟨b1, b2, ⟨vs, b3, b4⟩, b5, b6, b8⟩ := b
 have hsz : 1 < vs.size := (Array.getElem?_eq_some_iff.mp b4).1
 unfold noteFrame
 refine wpAny_bind (wpAny_field (N _ (.head _)).1 b3 b4 ?_)
 rw [if_neg (by decide)]
 refine note_entry K F N b3 hsz b6 (fun g' h' T oT ts t1 t2 t3 t4 t5 t6 t7 t8 => ?_) hk
 exact hQ g' h' T _ oT t1 t2 t3 t4 ⟨(Obj.cls_mapFields _ _).trans b1, (dict_mapF _ _).trans b2, ⟨_, Obj.data_mapFields b3 _, by simp [hsz]⟩, ⟨ts, t5, t6⟩, b5, t7, b6, t8, b8⟩

theorem note_fly {Q : Unit → Shared → Prop} (K : Below A₀ base outer g) (F : Fr g L s.heap m) (N : News g L s.heap ((e, oe) :: (T, oT) :: (dx, od) :: news)) (b : Fly mA .none e T dx oe oT od news) (hk : scope.kind = .function)
  (hQ : ∀ g' h' T oe' oT, KtsTurn (outer.filterMap (·.frame)) g g' → Fr g' L h' m → Below A₀ base outer g' → News g' L h' ((e, oe') :: (T, oT) :: (dx, od) :: news) → Fly mA (rawInt L) e T dx oe' oT od news → Q () { s with heap := h' }) :
  wpAny M (A₀.deeper (envOf name scope L a cd)) (noteFrame (.ref e) (envOf name scope L a cd)) Q E s := by
 obtain ⟨b1, b2, ⟨vs, b3, b4⟩, ⟨ts, bt, bt3⟩, b5, bn, b6, b7, b8⟩ := b
 have hsz : 1 < vs.size := (Array.getElem?_eq_some_iff.mp b4).1
 have ht3 : 3 < ts.size := (Array.getElem?_eq_some_iff.mp bt3).1
 unfold noteFrame
 refine wpAny_bind (wpAny_field (N _ (.head _)).1 b3 b4 ?_)
 rw [if_pos (show (Value.ref T != Value.none) = true from by simp)]
 refine wpAny_bind (wpAny_field (N _ (.tail _ (.head _))).1 bt bt3 ?_)
 rw [if_neg (show ¬ ((Value.none == rawInt L) = true) from by simp [rawInt])]
 refine wpAny_bind (wpAny_setField (N _ (.tail _ (.head _))).1 bt ht3 ?_)
 obtain ⟨F3, N3⟩ := news_upd (pre := [_]) (f := Obj.mapFields (·.setIfInBounds 3 Value.none)) F N (fun p hp => by rw [List.mem_singleton.mp hp]; exact Ne.symm bn) b7 rfl (Obj.isFreed_of_fields (Obj.data_mapFields bt _))
 refine note_entry (news := (dx, od) :: news) K F3 (fun p hp => N3 p ?_) b3 hsz b6 (fun g' h' T oT ts t1 t2 t3 t4 t5 t6 t7 t8 => ?_) hk
 ·rcases List.mem_cons.mp hp with rfl | hp
  ·exact .head _
  ·exact .tail _ (.tail _ hp)
 ·exact hQ g' h' T _ oT t1 t2 t3 t4 ⟨(Obj.cls_mapFields _ _).trans b1, (dict_mapF _ _).trans b2, ⟨_, Obj.data_mapFields b3 _, by simp [hsz]⟩, ⟨ts, t5, t6⟩, b5, t7, b6, t8, b8⟩

theorem note_again {Q : Unit → Shared → Prop} (N : News g L s.heap ((e, oe) :: (T, oT) :: (dx, od) :: news)) (b : Fly mA (rawInt L) e T dx oe oT od news) (h : Q () s) :
  wpAny M A (noteFrame (.ref e) (envOf name scope L a cd)) Q E s := by
 obtain ⟨b1, b2, ⟨vs, b3, b4⟩, ⟨ts, bt, bt3⟩, b5, bn, b6, b7, b8⟩ := b
 exact wpAny_noteFrame_inFlight rfl (N _ (.head _)).1 b3 b4 (N _ (.tail _ (.head _))).1 bt bt3 h

theorem set_flight {Q : Unit → Shared → Prop} {fr : Option Addr} (F : Fr g L s.heap m) (N : News g L s.heap ((e, oe) :: (T, oT) :: (dx, od) :: news)) (b : Fly mA fl e T dx oe oT od news)
  (hQ : ∀ h' oT', Fr g L h' m → News g L h' ((e, oe) :: (T, oT') :: (dx, od) :: news) → Fly mA (fr.elim .none fun f => rawInt f) e T dx oe oT' od news → Q () { s with heap := h' }) :
  wpAny M A (setFlight (.ref e) fr) Q E s := by
 obtain ⟨b1, b2, ⟨vs, b3, b4⟩, ⟨ts, bt, bt3⟩, b5, bn, b6, b7, b8⟩ := b
 have ht3 : 3 < ts.size := (Array.getElem?_eq_some_iff.mp bt3).1
 unfold setFlight
 refine wpAny_bind (wpAny_field (N _ (.head _)).1 b3 b4 ?_)
 rw [if_pos (show (Value.ref T != Value.none) = true from by simp)]
 refine wpAny_setField (N _ (.tail _ (.head _))).1 bt ht3 ?_
 obtain ⟨F3, N3⟩ := news_upd (pre := [_]) (f := Obj.mapFields (·.setIfInBounds 3 (fr.elim .none fun f => rawInt f))) F N (fun p hp => by rw [List.mem_singleton.mp hp]; exact Ne.symm bn) b7 rfl (Obj.isFreed_of_fields (Obj.data_mapFields bt _))
 exact hQ _ _ F3 N3 ⟨b1, b2, ⟨vs, b3, b4⟩, ⟨_, Obj.data_mapFields bt _, by simp [ht3]⟩, b5, bn, b6, b7, b8⟩

theorem leave_born {Q : Unit → Shared → Prop} (K : Below A₀ base outer g) (F : Fr g L s.heap m) (N : News g L s.heap ((e, oe) :: (dx, od) :: news)) (b : Born mA e dx oe od news) (hk : scope.kind = .function)
  (hQ : ∀ g' h' T oe' oT, KtsTurn (outer.filterMap (·.frame)) g g' → Fr g' L h' m → Below A₀ base outer g' → News g' L h' ((e, oe') :: (T, oT) :: (dx, od) :: news) → Fly mA .none e T dx oe' oT od news → Q () { s with heap := h' }) :
  wpAny M (A₀.deeper (envOf name scope L a cd)) (leaving (envOf name scope L a cd) (.ref e)) Q E s := by
 unfold leaving
 refine wpAny_bind (note_born K F N b hk fun g' h' T oe' oT t1 t2 t3 t4 t5 => ?_)
 exact set_flight (s := { s with heap := h' }) t2 t4 t5 fun h2 oT' u1 u2 u3 => hQ g' h2 T oe' oT' t1 u1 t3 u2 u3
theorem leave_fly {Q : Unit → Shared → Prop} (K : Below A₀ base outer g) (F : Fr g L s.heap m) (N : News g L s.heap ((e, oe) :: (T, oT) :: (dx, od) :: news)) (b : Fly mA .none e T dx oe oT od news) (hk : scope.kind = .function)
  (hQ : ∀ g' h' T oe' oT, KtsTurn (outer.filterMap (·.frame)) g g' → Fr g' L h' m → Below A₀ base outer g' → News g' L h' ((e, oe') :: (T, oT) :: (dx, od) :: news) → Fly mA .none e T dx oe' oT od news → Q () { s with heap := h' }) :
  wpAny M (A₀.deeper (envOf name scope L a cd)) (leaving (envOf name scope L a cd) (.ref e)) Q E s := by
 unfold leaving
 refine wpAny_bind (note_fly K F N b hk fun g' h' T oe' oT t1 t2 t3 t4 t5 => ?_)
 exact set_flight (s := { s with heap := h' }) t2 t4 t5 fun h2 oT' u1 u2 u3 => hQ g' h2 T oe' oT' t1 u1 t3 u2 u3
theorem leave_held {Q : Unit → Shared → Prop} (F : Fr g L s.heap m) (N : News g L s.heap ((e, oe) :: (T, oT) :: (dx, od) :: news)) (b : Fly mA (rawInt L) e T dx oe oT od news)
  (hQ : ∀ h' oT, Fr g L h' m → News g L h' ((e, oe) :: (T, oT) :: (dx, od) :: news) → Fly mA .none e T dx oe oT od news → Q () { s with heap := h' }) :
  wpAny M A (leaving (envOf name scope L a cd) (.ref e)) Q E s := by
 unfold leaving
 refine wpAny_bind (note_again N b ?_)
 exact set_flight F N b fun h2 oT' u1 u2 u3 => hQ h2 oT' u1 u2 u3

theorem pass_on {α : Type} {what : String} {Q : α → Shared → Prop} (F : Fr g L s.heap m) (N : News g L s.heap ((e, oe) :: (T, oT) :: (dx, od) :: news)) (b : Fly mA fl e T dx oe oT od news)
  (hE : ∀ h' oT, Fr g L h' m → News g L h' ((e, oe) :: (T, oT) :: (dx, od) :: news) → Fly mA (rawInt L) e T dx oe oT od news → E (.ref e) { s with heap := h' }) :
  wpAny M A (PySem.passOn what (.ref e) (envOf name scope L a cd) : Sem α) Q E s := by
 have b' := b
 obtain ⟨b1, b2, ⟨vs, b3, b4⟩, ⟨ts, bt, bt3⟩, b5, bn, b6, b7, b8⟩ := b'
 unfold PySem.passOn
 refine wpAny_bind (wpAny_field (N _ (.head _)).1 b3 b4 ?_)
 rw [if_neg (show ¬ ((Value.ref T == Value.none) = true) from by simp)]
 refine wpAny_bind (set_flight (fr := some L) F N b fun h2 oT' u1 u2 u3 => wpAny_throw (hE h2 oT' u1 u2 u3))
end

section
variable {A₀ A : Around} {base h₀ g g' h' : Heap} {outer : List Env} {L L' a : Addr} {m m' : Str → Option Value} {cn : Str} {cs : Scope} {ccd : Value} {news' : Led}
theorem up_frame (B : Below A₀ base outer h₀) (FG : Fr h₀ L g m) (T' : KtsTurn ((envOf cn cs L a ccd :: outer).filterMap (·.frame)) g g') (F' : Fr g' L' h' m') (N' : News g' L' h' news') :
  ∃ h₀', KtsTurn (outer.filterMap (·.frame)) h₀ h₀' ∧ Fr h₀' L h' m ∧ News h₀' L h' news' ∧ Below A₀ base outer h₀' := by
 have nL₀ : h₀.get? L = none := kts_self FG
 obtain ⟨oL, es, ep, hLg, hLd, hLk⟩ := FG.ns
 obtain ⟨sl, hs⟩ := T'.up hLg
 obtain ⟨T₁, S₁⟩ := kts_turn_at (h := h') (fs := outer.filterMap (·.frame)) (g := h₀)
  (fun b hb => by
   obtain ⟨_, o, ho', _⟩ := B.frames.mem hb
   exact ⟨o, ho'⟩)
  (fun b o q nm => F'.keep b o (T'.other b o (FG.keep b o q) (fun z => by
   rcases kts_mem z with z | z
   ·rw [z, nL₀] at q; cases q
   ·exact nm z)))
  (fun b o q hm => by
   obtain ⟨sl', hs'⟩ := T'.up (FG.keep b o q)
   exact ⟨sl', F'.keep _ _ hs'⟩)
 refine ⟨_, T₁, ⟨⟨_, es, ep, F'.keep _ _ hs, hLd, hLk⟩, S₁, by rw [T₁.size]; exact FG.above⟩, fun p hp => ⟨(N' p hp).1, fun q => ?_, T₁.none_ _ ?_⟩, ⟨B.stack, fun b o q => T₁.other b o (B.stays b o q) (fun hm => ?_), B.frames.of_keeps fun b o q _ => ?_⟩⟩
 ·have := (N' p hp).2.2; rw [q, hs] at this; cases this
 ·cases q : h₀.get? p.1 with
  |none => rfl
  |some o =>
   obtain ⟨sl', hs'⟩ := T'.up (FG.keep _ _ q)
   have := (N' p hp).2.2
   rw [hs'] at this; cases this
 ·rw [(B.frames.mem hm).1] at q; cases q
 ·obtain ⟨sl', hs'⟩ := T₁.up q
  exact ⟨_, hs', rfl⟩
end

noncomputable abbrev frs (outer : List Env) : List Addr := outer.filterMap (·.frame)

noncomputable def DoesX.at (prog : Program) (w : World) (mean : ExcName → Option Value) (mg mb : Str → Option Value) (f : Addr) (vs : List Value) (dd uu : Nat) (news : Led) (P : Value → Led → Prop) (PX : Addr → Led → Prop)
  (dp un : Nat) (gd : Option (List Code)) (cn : Str) (cs : Scope) (a : Addr) (ccd : Value) (outer : List Env) (A₀ : Around) (base h₀ : Heap) (L : Addr) (m : Str → Option Value) (s : Shared) (Q E : Value → Shared → Prop) : Prop :=
  Below A₀ base outer h₀ → Fr h₀ L s.heap m → (K9 w.params).In base → Top view9 lse mean mg mb base → KtsDicts (frs outer) h₀ → News h₀ L s.heap news → cs.kind = .function → dp + dd < recursionLimit → un + uu < cLine →
  (∀ h₀' r h' tk' news', KtsTurn (frs outer) h₀ h₀' → Fr h₀' L h' m → News h₀' L h' news' → Below A₀ base outer h₀' → (K9 w.params).In h₀' → Top view9 lse mean mg mb h₀' → KtsDicts (frs outer) h₀' → P r news' → Q r { s with heap := h', toks := tk' }) →
  (∀ h₀' e h' tk' news', KtsTurn (frs outer) h₀ h₀' → Fr h₀' L h' m → News h₀' L h' news' → Below A₀ base outer h₀' → (K9 w.params).In h₀' → Top view9 lse mean mg mb h₀' → KtsDicts (frs outer) h₀' → PX e news' → E (.ref e) { s with heap := h', toks := tk' }) →
  wpAny (model prog w) (ktrTop dp un gd cn cs L a ccd [] outer) (call (.ref f) vs) Q E s
noncomputable def DoesX (prog : Program) (w : World) (mean : ExcName → Option Value) (mg mb : Str → Option Value) (f : Addr) (vs : List Value) (dd uu : Nat) (news : Led) (P : Value → Led → Prop) (PX : Addr → Led → Prop) : Prop :=
 ∀ (dp un : Nat) (gd : Option (List Code)) (cn : Str) (cs : Scope) (a : Addr) (ccd : Value) (cl : List (Str × Addr)) (outer : List Env) (A₀ : Around) (base h₀ : Heap) (L : Addr) (m : Str → Option Value) (s : Shared) (Q E : Value → Shared → Prop),
  Below A₀ base outer h₀ → Fr h₀ L s.heap m → (K9 w.params).In base → Top view9 lse mean mg mb base → KtsDicts (frs outer) h₀ → News h₀ L s.heap news → cs.kind = .function → cl = [] → dp + dd < recursionLimit → un + uu < cLine →
  (∀ h₀' r h' tk' news', KtsTurn (frs outer) h₀ h₀' → Fr h₀' L h' m → News h₀' L h' news' → Below A₀ base outer h₀' → (K9 w.params).In h₀' → Top view9 lse mean mg mb h₀' → KtsDicts (frs outer) h₀' → P r news' → Q r { s with heap := h', toks := tk' }) →
  (∀ h₀' e h' tk' news', KtsTurn (frs outer) h₀ h₀' → Fr h₀' L h' m → News h₀' L h' news' → Below A₀ base outer h₀' → (K9 w.params).In h₀' → Top view9 lse mean mg mb h₀' → KtsDicts (frs outer) h₀' → PX e news' → E (.ref e) { s with heap := h', toks := tk' }) →
  wpAny (model prog w) (ktrTop dp un gd cn cs L a ccd cl outer) (call (.ref f) vs) Q E s

end
theorem In_D1.in_D1 : True := trivial
noncomputable section
open In_D1 Off9 Noi9
section
variable {prog : Program} {w : World} {A₀ : Around} {E : Value → Shared → Prop} {s' : Shared} {base g g₀ : Heap} {outer : List Env} {L a e T dx : Addr} {m mA : Str → Option Value} {name : Str} {scope : Scope} {cd : Value}
 {n : Str} {b₀ : Stmt} {suite : List Stmt} {pos np : Pos} {rest : List ExceptHandler} {Q : Flow → Shared → Prop} {news : Led} {oe oT od : Obj}
 {mean : ExcName → Option Value} {mg mb : Str → Option Value} {x : Str}

theorem caught_own (F : Fr g L s'.heap m) (N : News g L s'.heap ((e, oe) :: (T, oT) :: (dx, od) :: news)) (b : Fly mA .none e T dx oe oT od news) (K : Below A₀ base outer g) (XB : (K9 w.params).In base) (TB : Top view9 lse mean mg mb base)
  (D : KtsDicts (frs outer) g) (T0 : KtsTurn (frs outer) g₀ g)
  (ex : nsIn (K9 w.params) mainGlobals x = some (some (.ref 84))) (q : ktsIn (K9 w.params) 84 "BaseException" = true)
  (k : ∀ h' g' tk T oe oT, KtsTurn (frs outer) g₀ g' → Fr g' L h' (fun y => if y = n then some (.ref e) else m y) → News g' L h' ((e, oe) :: (T, oT) :: (dx, od) :: news) → Fly mA .none e T dx oe oT od news → Below A₀ base outer g' → (K9 w.params).In g' → Top view9 lse mean mg mb g' → KtsDicts (frs outer) g' →
   wpAny (model prog w) ((A₀.deeper (envOf name scope L a cd)).mark (some (.ref e))) (execs (b₀ :: suite) (envOf name scope L a cd))
    (fun f s₄ => wpAny (model prog w) (A₀.deeper (envOf name scope L a cd)) (do bindName (envOf name scope L a cd) n .none; unbindBehindTheSuite (envOf name scope L a cd) n pos) (fun _ s₅ => Q f s₅) E s₄)
    (AsSuiteRaised (model prog w) ((A₀.deeper (envOf name scope L a cd)).mark (some (.ref e))) (envOf name scope L a cd) n pos (notedBy (model prog w) ((A₀.deeper (envOf name scope L a cd)).mark (some (.ref e))) (envOf name scope L a cd) (cameBackBy (model prog w) (A₀.deeper (envOf name scope L a cd)) (envOf name scope L a cd) E)))
    { s' with heap := h', toks := tk })
  (hk : scope.kind = .function := by rfl) (hlo : (envOf name scope L a cd).kindOf n = some .local := by rfl) (hx : (envOf name scope L a cd).kindOf x = some .globalImplicit := by rfl) (hdb : (x == ("__debug__" : Str)) = false := by decide) :
  wpAny (model prog w) (A₀.deeper (envOf name scope L a cd)) (noteFrame (.ref e) (envOf name scope L a cd))
   (fun _ s₂ => wpAny (model prog w) (A₀.deeper (envOf name scope L a cd)) (setFlight (.ref e) none) (fun _ s₃ =>
    wpAny (model prog w) (A₀.deeper (envOf name scope L a cd)) (handleBy (.ref e) (envOf name scope L a cd) (.ExceptHandler (some (.Name x np)) (some n) (b₀ :: suite) pos :: rest)) Q E s₃) E s₂) E s' := by
 refine note_fly K F N b hk fun g₁ h₁ T₁ oe₁ oT₁ t1 F1 K1 N1 b1 => ?_
 refine set_flight (s := { s' with heap := h₁ }) F1 N1 b1 fun h₂ oT₂ F2 N2 b2 => ?_
 have X2 : (K9 w.params).In g₁ := XB.keeps K1.stays
 have P2 : TopRead view9 lse mg mb g₁ := topRead_of (TB.keeps K1.stays)
 obtain ⟨nm, q', N', bs, bm, hdct, sn, sub, ab, col, dd, k0, k1, k2, k3, k5, newId, hC, hbase, hbT⟩ := kts_cls X2 q
 have hC₅ := F2.keep _ _ hC
 refine wpAny_handleBy_cons (codeAny_handlers_test (name_K F2 X2 P2 ex ?_ hk hx hdb)) (by intro q; cases q)
 refine wpAny_excMatches_sub_self hC₅ (N2 _ (.head _)).1 b2.cls hbase (codeAny_handlers_suite_as ?_)
 refine set_flight (s := { s' with heap := h₂ }) F2 N2 b2 fun h₃ oT₃ F3 N3 b3 => ?_
 refine stN F3 N3 (fun h₇ F₇ N₇ => ?_) hk hlo
 exact k h₇ g₁ _ T₁ oe₁ oT₃ (T0.trans t1) F₇ N₇ b3 K1 X2 (TB.keeps K1.stays) (D.turn t1)
end
theorem raised_isx {w : World} : ktsIn (K9 w.params) 84 "BaseException" = true := by kts_isx
noncomputable abbrev excBm : List Value := [.type "Exception", .type "BaseException", .type "object"]
noncomputable def clsB (d : Data) (P : ClassData → Bool) : Bool := match d with
 |.cls cd => P cd
 |_ => false
theorem clsB_of {d : Data} {P : ClassData → Bool} (h : clsB d P = true) : ∃ cd, d = .cls cd ∧ P cd = true := by
 cases d <;> first | exact ⟨_, rfl, h⟩ | cases h
noncomputable def dictB (d : Data) (P : Array DictEntry → Bool) : Bool := match d with
 |.dict es _ => P es
 |_ => false
theorem dictB_of {d : Data} {P : Array DictEntry → Bool} (h : dictB d P = true) : ∃ es n, d = .dict es n ∧ P es = true := by
 cases d <;> first | exact ⟨_, _, rfl, h⟩ | cases h
noncomputable def strB (v : Value) : Bool := match v with
 |.str .. => true
 |_ => false
theorem strB_of {v : Value} (h : strB v = true) : ∃ n t, v = .str n t := by
 cases v <;> first | exact ⟨_, _, rfl⟩ | cases h
theorem any_of {α : Type} {o : Option α} {P : α → Bool} (h : o.any P = true) : ∃ a, o = some a ∧ P a = true := by
 cases o with
 |none => cases h
 |some a => exact ⟨a, rfl, h⟩
noncomputable def raisedIn (K : Frag) : Bool := (K.lookup 84).any fun o => o.cls == .type "type" && o.slots.size == 6 && o.slots[4]? == some (some (.builtin "Exception.__new__")) && clsB o.data fun cd => cd.mro == .ref 84 :: excBm && !cd.hasDel && cd.hasDict && (K.lookup cd.ns).any fun o2 => dictB o2.data fun es => es.toList.all (fun e => strB e.key) && nsFind es "__init__" == some (.ref 81) && ((["__setattr__", "__getattribute__", "__getattr__", "code", "value", "errorcode", "level", "ret", "info", "is_noted", "line", "extra"] : List Str).all fun x => nsFind es x == none)
theorem raised_in {w : World} : raisedIn (K9 w.params) = true := by kernel_rfl
theorem len_succ {α : Type} {l : List α} {n : Nat} (h : l.length = n + 1) : ∃ a l', l = a :: l' ∧ l'.length = n := by
 cases l with
 |nil => cases h
 |cons a l => exact ⟨a, l, rfl, Nat.succ.inj h⟩
theorem six_of {sl : Array (Option Value)} {v : Option Value} (h : sl.size = 6) (h4 : sl[4]? = some v) : ∃ k0 k1 k2 k3 k5, sl = #[k0, k1, k2, k3, v, k5] := by
 obtain ⟨l⟩ := sl
 replace h : l.length = 6 := h
 obtain ⟨a, l1, rfl, ha⟩ := len_succ h
 obtain ⟨b, l2, rfl, hb⟩ := len_succ ha
 obtain ⟨c, l3, rfl, hc⟩ := len_succ hb
 obtain ⟨d, l4, rfl, hd⟩ := len_succ hc
 obtain ⟨e, l5, rfl, he⟩ := len_succ hd
 obtain ⟨f, l6, rfl, hf⟩ := len_succ he
 obtain rfl := List.eq_nil_of_length_eq_zero hf
 exact ⟨a, b, c, d, f, by rw [show e = v from Option.some.inj h4]⟩
theorem raised_cls {w : World} {h : Heap} (X : (K9 w.params).In h) : ∃ nm q N bs sn sub ab col dd k0 k1 k2 k3 k5 mN, h.get? 84 = some (excClassObj nm q 84 N bs excBm true sn sub ab col dd k0 k1 k2 k3 k5 "Exception.__new__") ∧ h.Ns N mN ∧
  mN "__init__" = some (.ref 81) ∧ ∀ x ∈ (["__setattr__", "__getattribute__", "__getattr__", "code", "value", "errorcode", "level", "ret", "info", "is_noted", "line", "extra"] : List Str), mN x = none := by
 have q := raised_in (w := w)
 unfold raisedIn at q
 obtain ⟨⟨cl, dd, da, sl⟩, ho, qa⟩ := any_of q
 clear q
 simp only [Bool.and_eq_true, beq_iff_eq] at qa
 obtain ⟨⟨⟨rfl, hs⟩, h4⟩, qb⟩ := qa
 obtain ⟨k0, k1, k2, k3, k5, rfl⟩ := six_of hs h4
 obtain ⟨⟨nm, bs, mro, ns, qn, hd', sn, sub, ab, col, del⟩, rfl, qc⟩ := clsB_of qb
 clear qb
 simp only [Bool.and_eq_true, beq_iff_eq, Bool.not_eq_true'] at qc
 obtain ⟨⟨⟨hm, hdel⟩, hdct⟩, qd⟩ := qc
 subst hm hdel hdct
 obtain ⟨⟨c2, d2, da2, sl2⟩, ho2, qe⟩ := any_of qd
 clear qd
 obtain ⟨es, n2, rfl, qf⟩ := dictB_of qe
 clear qe
 obtain ⟨qg, q3⟩ := Bool.and_eq_true_iff.mp qf
 obtain ⟨q1, q2⟩ := Bool.and_eq_true_iff.mp qg
 replace q2 := beq_iff_eq.mp q2
 exact ⟨nm, qn, ns, bs, sn, sub, ab, col, dd, k0, k1, k2, k3, k5, fun x => nsFind es x, X _ _ ho, ⟨_, es, n2, X _ _ ho2, rfl, fun e he => strB_of (List.all_eq_true.mp q1 e (Array.mem_toList_iff.mpr he)), fun _ => rfl⟩, q2, fun x hx => beq_iff_eq.mp (List.all_eq_true.mp q3 x hx)⟩

section
variable {prog : Program} {w : World} {A : Around} {E : Value → Shared → Prop} {h₀ : Heap} {L : Addr} {m : Str → Option Value} {news : Led} {s : Shared}
noncomputable abbrev newExcO (t : Addr) : Obj := { cls := .ref 84, data := .fields #[.ref t, .none, .none, .none, .bool false, .none] }
theorem raised_make {rest : List Value} {Q : Value → Shared → Prop} (X₀ : (K9 w.params).In h₀) (F : Fr h₀ L s.heap m) (N : News h₀ L s.heap news)
  (hq : ∀ e t h', Fr h₀ L h' m → News h₀ L h' ((e, newExcO t) :: news) → (∀ p ∈ news, p.1 < e) →
   codeAny (model prog w) (A.under (.builtin "type.__call__" ⟨.ref 84 :: rest, []⟩)) (.call (.ref 81) ⟨.ref e :: rest, []⟩) (InitBack e (fun r s' => match r with | .ok (.ret v) => Q v s' | .ok _ => False | .error x => E x s')) { s with heap := h' })
  (hrest : rest.length ≤ sizeLine) :
  wpAny (model prog w) A (call (.ref 84) rest) Q E s := by
 have X := X₀.keeps F.keep
 obtain ⟨nm, q, N', bs, sn, sub, ab, col, dd, k0, k1, k2, k3, k5, mN, hC, hn, hni, hno⟩ := raised_cls X
 have FF := PySem.F.excBase_Exception
 obtain ⟨hp, gs, d, t, os⟩ := s
 have f1 := tc_lookup
 have f2 := tc_bind (.ref 84)
 have hT : (⟨hp, gs, d, t, os⟩ : Shared).TypeIs (.ref 84) "type" := ⟨_, hC, rfl⟩
 refine wpAny_call (codeAny_of_tree ?_)
 show wpAny _ _ (callAny (.ref 84) _) _ _ _
 repeat (any_goals (first | assumption | with_reducible refine wpAny_loadPart_at hC ?_ | wp_step))
 refine ⟨rfl, ?_⟩
 refine codeAny_call_builtin_at (Code.quiet_builtin _ (by decide +kernel)) entry_typeCall (wpAny_check_type_call_sub hC ?_)
 repeat (first | with_reducible refine wpAny_loadPart_at hC ?_ | with_reducible refine wpAny_madeBy_exc hC ?_ | wp_step)
 refine codeAny_call_builtin_code (Code.quiet_builtin _ FF.quiet) (wpAny_check_new_sub FF hC ?_)
 refine codeAny_exc_new_sub FF hC ?_ hrest
 show wpAny _ _ _ _ _ _
 have F1 := F.push { cls := .type "tuple", data := .seq rest.toArray }
 have N1 := N.push F { cls := .type "tuple", data := .seq rest.toArray }
 have F2 := F1.push (newExcO hp.objs.size)
 have N2 := N1.push F1 (newExcO hp.objs.size)
 rw [Heap.size_push] at N2
 have hC₁ := F2.keep
 have X2 := X₀.keeps F2.keep
 have hC2 := Heap.get?_push_of_some (newExcO hp.objs.size) (Heap.get?_push_of_some { cls := .type "tuple", data := .seq rest.toArray } hC)
 have hn2 : ((hp.push { cls := .type "tuple", data := .seq rest.toArray }).push (newExcO hp.objs.size)).Ns N' mN :=
  let ⟨o, es, ep, e, r⟩ := hn; ⟨o, es, ep, Heap.get?_push_of_some _ (Heap.get?_push_of_some _ e), r⟩
 have hget : ((hp.push { cls := .type "tuple", data := .seq rest.toArray }).push (newExcO hp.objs.size)).get? (hp.objs.size + 1) = some (newExcO hp.objs.size) := (N2 _ (.head _)).1
 have hcC : (Value.ref 84 :: excBm).contains (.ref 84) = true := by simp
 unfold isInstance
 repeat (first | with_reducible refine wpAny_loadPart_at hget ?_ | wp_step)
 show wpAny _ _ (isSubtype (.ref 84) (.ref 84)) _ _ _
 refine wpAny_isSubtype_exc hC2 ?_
 rw [hcC]
 unfold callSpecial? specialOf
 repeat (first | with_reducible refine wpAny_loadPart_at hget ?_ | wp_step)
 show wpAny _ _ (typeLookup (.ref 84) _) _ _ _
 refine wpAny_typeLookup_exc hC2 hn2 FF.mroIs FF.init.lookup ?_
 rw [hni]
 have tf : typeIn (K9 w.params) (.ref 81) = some (.type "function") := by k_is
 refine wpAny_holding (wpAny_bind ((bind_fn X2 (.ref (hp.objs.size + 1)) tf).here ?_))
 refine wpAny_bind (wpAny_call ?_)
 refine codeAny_mono (hq (hp.objs.size + 1) hp.objs.size _ F2 (fun p hp => N2 p ?_) (fun p hp => Nat.lt_succ_of_lt (Heap.lt_size (N p hp).1))) (fun r s' z => ?_)
 ·rcases List.mem_cons.mp hp with rfl | hp
  ·exact .head _
  ·exact .tail _ (.tail _ hp)
 rcases r with e | (v | _ | _ | _) <;> first | exact z | exact z.elim | skip
 obtain ⟨rfl, z⟩ := z
 exact wpAny_pure (wpAny_pure z)
end

end
theorem In_D2.in_D2 : True := trivial
noncomputable section
open In_D2 Off9 Noi9
section
variable {prog : Program} {w : World} {A : Around} {E : Value → Shared → Prop} {h₀ : Heap} {L : Addr} {m mA : Str → Option Value} {news : Led} {s : Shared} {e dx : Addr} {oe od : Obj} {vs : Array Value} {name : Str} {v : Value}
noncomputable abbrev excNames : List Str := ["__setattr__", "__getattribute__", "__getattr__", "code", "value", "errorcode", "level", "ret", "info", "is_noted", "line", "extra"]

theorem exc_set {Q : Unit → Shared → Prop} {ns : List Str} (X₀ : (K9 w.params).In h₀) (F : Fr h₀ L s.heap m) (N : News h₀ L s.heap ((e, oe) :: (dx, od) :: news)) (hc : oe.cls = .ref 84) (hdt : oe.dict = some dx) (hf : oe.data = .fields vs)
  (O : NsO od mA) (a1 : ∀ p ∈ (dx, od) :: news, p.1 ≠ e) (a2 : ∀ p ∈ news, p.1 ≠ dx) (hB : typeLookup (.type "Exception") name = pure none) (hn : name ∈ excNames)
  (hQ : ∀ h' tk od, Fr h₀ L h' m → News h₀ L h' ((e, oe) :: (dx, od) :: news) → NsO od (fun y => if y = name then some v else mA y) → Q () { s with heap := h', toks := tk })
  (hw : Within mA ns) (hsz : ns.length ≤ sizeLine) :
  wpAny (model prog w) A (setAttr (.ref e) name v) Q E s := by
 obtain ⟨hp, gs, d, t, os⟩ := s
 have X := X₀.keeps F.keep
 obtain ⟨nm, q, N', bs, sn, sub, ab, col, dd, k0, k1, k2, k3, k5, mN, hC, hns, hni, hno⟩ := raised_cls X
 have De := N _ (.head _)
 have Dd := N _ (.tail _ (.head _))
 have nee : dx ≠ e := a1 _ (.head _)
 have hx84 : e ≠ 84 := fun z => by
  have := De.1; rw [z, hC] at this; cases this; cases hf
 obtain ⟨es, ep, o1, o2, o3, o4⟩ := O
 refine store_attr PySem.F.store_Exception hC hns (hno _ (.head _)) (hno _ hn) hB hx84 (mA := mA) ⟨oe, De.1, hc, (fun c q => by rw [hf] at q; cases q), .inr ⟨dx, hdt, nee, od, es, ep, Dd.1, o1, o2, o3, o4⟩⟩ (fun h' tk' I' hk hsame => ?_) hw hsz
 obtain ⟨oe', g1, g2, g3, g4, g5⟩ := hsame _ De.1
 have e2 : oe' = oe := by
  obtain ⟨c, dt, da, sl⟩ := oe'
  obtain ⟨c', dt', da', sl'⟩ := oe
  dsimp only at g2 g3 g4 g5 hdt
  rw [g2, g3, g4, g5 dx hdt, hdt]
 subst e2
 obtain ⟨o', i1, i2, i3, i4⟩ := I'
 rw [g1] at i1; cases i1
 rcases i4 with ⟨z, _⟩ | ⟨dx', z, _, od', es', ep', j1, j2, j3, j4, j5⟩
 ·rw [hdt] at z; cases z
 rw [hdt] at z; cases z
 have kp : ∀ b o, b ≠ e → b ≠ dx → hp.get? b = some o → h'.get? b = some o := fun b o x1 x2 x3 => hk b o x1 (fun o₀ dx' y1 y2 => by rw [De.1] at y1; cases y1; rw [hdt] at y2; cases y2; exact x2) x3
 refine hQ h' tk' od' ⟨?_, fun b o x => kp b o (fun z => ?_) (fun z => ?_) (F.keep b o x), F.above⟩ (fun p hp' => ?_) ⟨es', ep', j2, j3, j4, j5⟩
 ·obtain ⟨oL, eL, pL, l1, l2⟩ := F.ns
  exact ⟨oL, eL, pL, kp _ _ (Ne.symm De.2.1) (Ne.symm Dd.2.1) l1, l2⟩
 ·have := De.2.2; rw [← z, x] at this; cases this
 ·have := Dd.2.2; rw [← z, x] at this; cases this
 ·rcases List.mem_cons.mp hp' with rfl | hp'
  ·exact ⟨g1, De.2⟩
  rcases List.mem_cons.mp hp' with rfl | hp'
  ·exact ⟨j1, Dd.2⟩
  ·have P := N p (.tail _ (.tail _ hp'))
   exact ⟨kp _ _ (a1 p (.tail _ hp')) (a2 p hp') P.1, P.2⟩

open Builtin Builtin.ObjectAttr in
theorem exc_set1_ {sa owner : String} {Q : Unit → Shared → Prop} (SF : StoreFacts "Exception" excBm sa owner) (X₀ : (K9 w.params).In h₀) (F : Fr h₀ L s.heap m) (N : News h₀ L s.heap ((e, oe) :: news)) (hc : oe.cls = .ref 84) (hdt : oe.dict = none) (hf : oe.data = .fields vs)
  (a1 : ∀ p ∈ news, p.1 ≠ e) (hB : typeLookup (.type "Exception") name = pure none) (hn : name ∈ excNames)
  (hQ : ∀ h' tk dx od, Fr h₀ L h' m → News h₀ L h' ((e, { oe with dict := some dx }) :: (dx, od) :: news) → NsO od (fun y => if y = name then some v else none) → dx ≠ e → (∀ p ∈ news, p.1 ≠ dx) → Q () { s with heap := h', toks := tk }) :
  wpAny (model prog w) A (setAttr (.ref e) name v) Q E s := by
 obtain ⟨h, g, d, t, os⟩ := s
 have X := X₀.keeps F.keep
 obtain ⟨nm, q, N', bs, sn, sub, ab, col, dd, k0, k1, k2, k3, k5, mN, hC, hns, hni, hno⟩ := raised_cls X
 have hx : h.get? e = some oe := (N _ (.head _)).1
 have hpass := SF.passes (.ref e)
 have f3 := SF.slot.bind (.ref e)
 have hna := hno _ hn
 have hna0 : mN "__setattr__" = none := hno _ (.head _)
 unfold setAttr callSpecial? specialOf
 repeat (any_goals (first | assumption | (with_reducible refine wpAny_loadPart_at hx ?_; rw [hc]) | (with_reducible refine wpAny_typeLookup_exc hC hns SF.mro SF.slot.lookup ?_; rw [hna0]) | wp_step))
 refine codeAny_call_builtin SF.slot.plain SF.entry (wpAny_check_sa SF hC hx hc ?_)
 unfold Builtin.«object.__setattr__»
 repeat (first | rw [refuse_eq] | (rw [refuseLoop_ref, hpass]) | (with_reducible refine wpAny_loadPart_at hx ?_; rw [hc]) | with_reducible refine wpAny_mroOf_exc hC ?_ | (with_reducible refine wpAny_typeLookup_exc hC hns SF.mro hB ?_; rw [hna]) | wp_step)
 rw [hdt, if_neg (by simp [typeHasDict])]
 split
 ·rename_i hcd
  cases hcd
 split
 ·rename_i c hcd
  rw [hf] at hcd
  cases hcd
 have hx₁ := Heap.get?_push_of_some emptyDict hx
 have F1 := F.push emptyDict
 have N1 := N.push F emptyDict
 have lt : ∀ p ∈ (e, oe) :: news, p.1 < h.objs.size := fun p hp => Heap.lt_size (N p hp).1
 have le := lt _ (.head _)
 refine wpAny_bind (wpAny_alloc' ?_)
 refine wpAny_bind (wpAny_update' hx₁ ?_)
 refine wpAny_pure ?_
 obtain ⟨F2, N2⟩ := news_upd (pre := [_]) (f := fun o => { cls := o.cls, dict := some h.objs.size, data := o.data, slots := o.slots }) F1 N1 (fun p hp => by rw [List.mem_singleton.mp hp]; exact Nat.ne_of_gt le) a1 rfl (Obj.isFreed_of_fields hf)
 have hnd : ((h.push emptyDict).update e fun o => { cls := o.cls, dict := some h.objs.size, data := o.data, slots := o.slots }).Ns h.objs.size (fun _ => none) :=
  ⟨_, #[], _, (N2 _ (.head _)).1, rfl, fun e he => absurd he (by simp), fun _ => rfl⟩
 show wpAny _ _ (storeInDict h.objs.size _ name v) _ _ _
 unfold storeInDict newKeyGuard
 refine wpAny_bind (wpAny_pure (wpAny_bind (wpAny_nsSet1 (Heap.Ns1.of_empty hnd) fun h' hn' hs => ?_)))
 obtain ⟨oD, esD, epD, hoD, hdD, hcD⟩ := hn'.count (Within.cons name v Within.nil)
 refine wpAny_bind (wpAny_lookBehind hoD (by rw [hdD]; exact pastItsLine_dict (Nat.le_trans hcD (by rw [List.length_cons, List.length_nil, sizeLine_eq]; w_how))) ?_)
 wp_walk
 obtain ⟨od', es', ep', j1, j2, j3, j4, j5⟩ := hn'
 have Dd := N2 _ (.head _)
 have kp : ∀ b o, b ≠ h.objs.size → ((h.push emptyDict).update e fun o => { cls := o.cls, dict := some h.objs.size, data := o.data, slots := o.slots }).get? b = some o → h'.get? b = some o := fun b o x1 x3 => (hs.2 b x1).trans x3
 refine hQ h' _ h.objs.size od' ⟨?_, fun b o x => kp b o (fun z => ?_) (F2.keep b o x), F.above⟩ (fun p hp' => ?_) ⟨es', ep', j2, j3, j4, j5⟩ (Nat.ne_of_gt le) (fun p hp => Nat.ne_of_lt (lt _ (.tail _ hp)))
 ·obtain ⟨oL, eL, pL, l1, l2⟩ := F2.ns
  exact ⟨oL, eL, pL, kp _ _ (Ne.symm Dd.2.1) l1, l2⟩
 ·have := Dd.2.2; rw [← z, x] at this; cases this
 ·rcases List.mem_cons.mp hp' with rfl | hp'
  ·have P := N2 (e, { cls := oe.cls, dict := some h.objs.size, data := oe.data, slots := oe.slots }) (by simp)
   exact ⟨kp _ _ (Nat.ne_of_lt le) P.1, P.2⟩
  rcases List.mem_cons.mp hp' with rfl | hp'
  ·exact ⟨j1, Dd.2⟩
  ·have P := N2 p (by simp [hp'])
   exact ⟨kp _ _ (Nat.ne_of_lt (lt _ (.tail _ hp'))) P.1, P.2⟩
theorem exc_set1 {Q : Unit → Shared → Prop} (X₀ : (K9 w.params).In h₀) (F : Fr h₀ L s.heap m) (N : News h₀ L s.heap ((e, oe) :: news)) (hc : oe.cls = .ref 84) (hdt : oe.dict = none) (hf : oe.data = .fields vs)
  (a1 : ∀ p ∈ news, p.1 ≠ e) (hB : typeLookup (.type "Exception") name = pure none) (hn : name ∈ excNames)
  (hQ : ∀ h' tk dx od, Fr h₀ L h' m → News h₀ L h' ((e, { oe with dict := some dx }) :: (dx, od) :: news) → NsO od (fun y => if y = name then some v else none) → dx ≠ e → (∀ p ∈ news, p.1 ≠ dx) → Q () { s with heap := h', toks := tk }) :
  wpAny (model prog w) A (setAttr (.ref e) name v) Q E s := exc_set1_ PySem.F.store_Exception X₀ F N hc hdt hf a1 hB hn hQ
end

end
theorem In_D3.in_D3 : True := trivial
noncomputable section
open In_D3
noncomputable def ExcMap (n : Int) (x : Str) (mA : Str → Option Value) : Prop := (∃ t, mA "code" = some (.int n t)) ∧ ∃ t, mA "value" = some (.str x t)
theorem lk_code : typeLookup (.type "Exception") "code" = pure none := by rw [typeLookup_type, builtinLookup_eq_fast]; kernel_rfl
theorem lk_value : typeLookup (.type "Exception") "value" = pure none := by rw [typeLookup_type, builtinLookup_eq_fast]; kernel_rfl
theorem lk_errorcode : typeLookup (.type "Exception") "errorcode" = pure none := by rw [typeLookup_type, builtinLookup_eq_fast]; kernel_rfl
theorem lk_level : typeLookup (.type "Exception") "level" = pure none := by rw [typeLookup_type, builtinLookup_eq_fast]; kernel_rfl
theorem lk_ret : typeLookup (.type "Exception") "ret" = pure none := by rw [typeLookup_type, builtinLookup_eq_fast]; kernel_rfl
theorem lk_info : typeLookup (.type "Exception") "info" = pure none := by rw [typeLookup_type, builtinLookup_eq_fast]; kernel_rfl
theorem lk_is_noted : typeLookup (.type "Exception") "is_noted" = pure none := by rw [typeLookup_type, builtinLookup_eq_fast]; kernel_rfl
theorem lk_line : typeLookup (.type "Exception") "line" = pure none := by rw [typeLookup_type, builtinLookup_eq_fast]; kernel_rfl
theorem lk_extra : typeLookup (.type "Exception") "extra" = pure none := by rw [typeLookup_type, builtinLookup_eq_fast]; kernel_rfl
section
variable {prog : Program} {w : World} {A : Around} {E : Value → Shared → Prop} {h₀ : Heap} {L e t : Addr} {m : Str → Option Value} {news : Led} {s : Shared}
theorem exc_init {rest : List Value} {Q : Value → Shared → Prop} (X₀ : (K9 w.params).In h₀) (F : Fr h₀ L s.heap m) (N : News h₀ L s.heap ((e, newExcO t) :: news)) (a1 : ∀ p ∈ news, p.1 ≠ e) (hrest : rest.length ≤ sizeLine)
  (hQ : ∀ h' t', Fr h₀ L h' m → News h₀ L h' ((e, newExcO t') :: news) → Q .none { s with heap := h' }) :
  wpAny (model prog w) A (call (.builtin "Exception.__init__") (.ref e :: rest)) Q E s := by
 have X := X₀.keeps F.keep
 obtain ⟨nm, q, N', bs, sn, sub, ab, col, dd, k0, k1, k2, k3, k5, mN, hC, hn, hni, hno⟩ := raised_cls X
 have FF := PySem.F.excBase_Exception
 obtain ⟨hp, gs, d, tk, os⟩ := s
 have hget : hp.get? e = some (newExcO t) := (N _ (.head _)).1
 refine wpAny_call (codeAny_call_builtin FF.init.plain FF.initEntry (wpAny_check_init_sub FF hC hget rfl ?_))
 wp_walk
 have F1 := F.push { cls := .type "tuple", data := .seq rest.toArray }
 have N1 := N.push F { cls := .type "tuple", data := .seq rest.toArray }
 obtain ⟨F2, N2⟩ := news_upd (pre := [_]) (o' := newExcO hp.objs.size) (f := Obj.mapFields (·.setIfInBounds 0 (.ref hp.objs.size))) F1 N1 (fun p hp => by rw [List.mem_singleton.mp hp]; exact Nat.ne_of_gt (Heap.lt_size hget)) a1 rfl rfl
 exact hQ _ hp.objs.size F2 (fun p hp => N2 p (.tail _ hp))
end
namespace raised_h
noncomputable abbrev T9 : Type := Program × World × (ExcName → Option Value) × (Str → Option Value) × (Str → Option Value) × Led × Int × Tok × Tok × Str × Cx
noncomputable def S9 (prog : Program) (w : World) (mean : ExcName → Option Value) (mg : Str → Option Value) (mb : Str → Option Value) (news : Led) (n : Int) (t0 : Tok) (t2 : Tok) (x : Str) (x9 : Cx) : Prop :=
 Does.at prog w mean mg mb 84 [.int n t0, .str x t2] 2 30 news (fun v news' => ∃ e dx oe od mA, v = .ref e ∧ news' = (e, oe) :: (dx, od) :: news ∧ Born mA e dx oe od news ∧ ExcMap n x mA ∧ ∀ p ∈ news, p.1 ≠ dx) x9.1 x9.2.1 x9.2.2.1 x9.2.2.2.1 x9.2.2.2.2.1 x9.2.2.2.2.2.1 x9.2.2.2.2.2.2.1 x9.2.2.2.2.2.2.2.1 x9.2.2.2.2.2.2.2.2.1 x9.2.2.2.2.2.2.2.2.2.1 x9.2.2.2.2.2.2.2.2.2.2.1 x9.2.2.2.2.2.2.2.2.2.2.2.1 x9.2.2.2.2.2.2.2.2.2.2.2.2.1 x9.2.2.2.2.2.2.2.2.2.2.2.2.2.1 x9.2.2.2.2.2.2.2.2.2.2.2.2.2.2.1 x9.2.2.2.2.2.2.2.2.2.2.2.2.2.2.2.1 x9.2.2.2.2.2.2.2.2.2.2.2.2.2.2.2.2
noncomputable def P9 : T9 → Prop := cur fun prog => cur fun w => cur fun mean => cur fun mg => cur fun mb => cur fun news => cur fun n => cur fun t0 => cur fun t2 => cur fun x => fun x9 => S9 prog w mean mg mb news n t0 t2 x x9
theorem ex9 : ∃ x, P9 x → ∀ y, P9 y := drinker P9 (PySem.Challenge.rw_np0139_01.prog, w0, default, default, default, default, default, default, default, default, cx0)
@[irreducible] def c9 : T9 := Classical.choose ex9
@[irreducible] def prog := c9.1
@[irreducible] def w := c9.2.1
@[irreducible] def mean := c9.2.2.1
@[irreducible] def mg := c9.2.2.2.1
@[irreducible] def mb := c9.2.2.2.2.1
@[irreducible] def news := c9.2.2.2.2.2.1
@[irreducible] def n := c9.2.2.2.2.2.2.1
@[irreducible] def t0 := c9.2.2.2.2.2.2.2.1
@[irreducible] def t2 := c9.2.2.2.2.2.2.2.2.1
@[irreducible] def x := c9.2.2.2.2.2.2.2.2.2.1
@[irreducible] def x9 := c9.2.2.2.2.2.2.2.2.2.2
abbrev m := x9.2.2.2.2.2.2.2.2.2.2.2.2.2.1
theorem core9 : S9 prog w mean mg mb news n t0 t2 x x9 := by
 refine wr_z (by
 intro B F X T N hk hd hu hret
 refine raised_make X F N ?_ (by simp [sizeLine_eq])
 intro e t h' F1 N1 l1
 have a1 : ∀ p ∈ news, p.1 ≠ e := fun p hp => Nat.ne_of_lt (l1 p hp)
 clear F N
 have X1 := X.keeps F1.keep
 k_dflt ktr_enter
 f_tup
 k_steps
 with_reducible refine' method_type ?F ?X ?m (by decide +kernel) ?e ?h ?_
 case F => k_asm
 case X => k_asm
 case m => kernel_rfl
 case e => k_dflt k_is
 case h => k_handed
 f_tup
 k_steps
 refine exc_init (by k_asm) (by assumption) (by assumption) a1 (by simp [sizeLine_eq]) ?_
 intro h2 t2' F2 N2
 k_with "setAttr ref" => ((fail_if_success (fail_if_success (have h9 := in_D3))); ((refine Stop.out ?_)))
 f_tup
 k_steps
 refine Stop.mk ?_
 f_tup
 refine exc_set1 (by k_asm) (by assumption) (by assumption) rfl rfl rfl a1 lk_code (by simp [excNames]) ?_
 intro h3 tk3 dx od3 F3 N3 O3 nee a2
 clear F2 N2
 have a3 : ∀ od, ∀ p ∈ (dx, od) :: news, p.1 ≠ e := fun od p hp => by
  rcases List.mem_cons.mp hp with rfl | hp
  ·exact nee
  ·exact a1 p hp
 f_tup
 k_steps
 refine Stop.mk ?_
 f_tup
 refine exc_set (by k_asm) (by assumption) (by assumption) rfl rfl rfl O3 (a3 _) a2 lk_value (by simp [excNames]) ?_ (by within_ways) (by size_fits)
 intro h4 tk4 od4 F4 N4 O4
 clear F3 N3 O3
 f_tup
 k_steps
 refine Stop.mk ?_
 f_tup
 refine exc_set (by k_asm) (by assumption) (by assumption) rfl rfl rfl O4 (a3 _) a2 lk_errorcode (by simp [excNames]) ?_ (by within_ways) (by size_fits)
 intro h5 tk5 od5 F5 N5 O5
 clear F4 N4 O4
 f_tup
 k_steps
 refine Stop.mk ?_
 f_tup
 refine exc_set (by k_asm) (by assumption) (by assumption) rfl rfl rfl O5 (a3 _) a2 lk_level (by simp [excNames]) ?_ (by within_ways) (by size_fits)
 intro h6 tk6 od6 F6 N6 O6
 clear F5 N5 O5
 f_tup
 k_steps
 refine Stop.mk ?_
 f_tup
 refine exc_set (by k_asm) (by assumption) (by assumption) rfl rfl rfl O6 (a3 _) a2 lk_ret (by simp [excNames]) ?_ (by within_ways) (by size_fits)
 intro h7 tk7 od7 F7 N7 O7
 clear F6 N6 O6
 f_tup
 k_steps
 refine Stop.mk ?_
 f_tup
 refine exc_set (by k_asm) (by assumption) (by assumption) rfl rfl rfl O7 (a3 _) a2 lk_info (by simp [excNames]) ?_ (by within_ways) (by size_fits)
 intro h8 tk8 od8 F8 N8 O8
 clear F7 N7 O7
 f_tup
 k_steps
 refine Stop.mk ?_
 f_tup
 refine exc_set (by k_asm) (by assumption) (by assumption) rfl rfl rfl O8 (a3 _) a2 lk_is_noted (by simp [excNames]) ?_ (by within_ways) (by size_fits)
 intro h9 tk9 od9 F9 N9 O9
 clear F8 N8 O8
 f_tup
 k_steps
 refine Stop.mk ?_
 f_tup
 refine exc_set (by k_asm) (by assumption) (by assumption) rfl rfl rfl O9 (a3 _) a2 lk_line (by simp [excNames]) ?_ (by within_ways) (by size_fits)
 intro h10 tk10 od10 F10 N10 O10
 clear F9 N9 O9
 f_tup
 k_steps
 refine Stop.mk ?_
 f_tup
 rename News _ _ _ _ => N10x
 have N10 := news_tail N10x
 rename Fr _ _ _ _ => F10
 refine exc_set (by k_asm) F10 N10 rfl rfl rfl O10 (a3 _) a2 lk_extra (by simp [excNames]) ?_ (by within_ways) (by size_fits)
 intro h11 tk11 od11 F11 N11 O11
 clear F10 N10 O10
 f_tup
 k_steps
 refine hret _ _ _ _ (by assumption) (by assumption) ⟨e, dx, _, od11, _, rfl, rfl, ⟨rfl, rfl, ⟨_, rfl, rfl⟩, O11, a3 _, a2⟩, ⟨⟨t0, ?_⟩, ⟨t2, ?_⟩⟩, a2⟩
 ·with_unfolding_all rfl
 ·with_unfolding_all rfl
 ) ?_
 intro q f
 simpa using f (default : (by exact Fin 1))

theorem ok9 : ∀ y, P9 y := Classical.choose_spec ex9 (by with_unfolding_all exact core9)
end raised_h
theorem raised_does {prog : Program} {w : World} {mean : ExcName → Option Value} {mg mb : Str → Option Value} {news : Led} {n : Int} {t0 t2 : Tok} {x : Str} :
  Does prog w mean mg mb 84 [.int n t0, .str x t2] 2 30 news (fun v news' => ∃ e dx oe od mA, v = .ref e ∧ news' = (e, oe) :: (dx, od) :: news ∧ Born mA e dx oe od news ∧ ExcMap n x mA ∧ ∀ p ∈ news, p.1 ≠ dx) := by
 intros dp un gd cn cs a ccd cl outer A₀ base h₀ L m s Q E
 exact raised_h.ok9 (prog, w, mean, mg, mb, news, n, t0, t2, x, (dp, un, gd, cn, cs, a, ccd, cl, outer, A₀, base, h₀, L, m, s, Q, E)) 
end
theorem In_D4.in_D4 : True := trivial
noncomputable section
open In_D4 Off9 Noi9
section
variable {prog : Program} {w : World} {A : Around} {E : Value → Shared → Prop} {h₀ : Heap} {L e dx : Addr} {m mA : Str → Option Value} {news : Led} {s : Shared} {oe od : Obj} {vs : Array Value} {name : Str} {v : Value}
theorem lk_ga : typeLookup (.type "Exception") "__getattr__" = pure none := by rw [typeLookup_type, builtinLookup_eq_fast]; kernel_rfl
theorem slot_ga : Slot "Exception" "__getattribute__" "BaseException.__getattribute__" := .of (owner := "BaseException") (n := "__getattribute__") (by rw [typeLookup_type, builtinLookup_eq_fast]; kernel_rfl) (by decide +kernel) (by decide +kernel) (by decide +kernel)
  (by first | exact .inl (by decide +kernel) | exact .inr (by decide +kernel)) (by rw [isSubtype_type]; kernel_rfl)
theorem exc_get_ {ga : String} {expr : Bool} {Q : Value → Shared → Prop} (hga : ga = "BaseException.__getattribute__") (S : Slot "Exception" "__getattribute__" ga) (X₀ : (K9 w.params).In h₀) (F : Fr h₀ L s.heap m) (N : News h₀ L s.heap news) (me : (e, oe) ∈ news) (md : (dx, od) ∈ news)
  (hc : oe.cls = .ref 84) (hdt : oe.dict = some dx) (hf : oe.data = .fields vs) (O : NsO od mA) (hv : mA name = some v) (hh : handedOut v = pure v) (hB : typeLookup (.type "Exception") name = pure none) (hn : name ∈ excNames) (hfi : findIn (K9 w.params) (.ref 84) name = some none) (hm : mroIn (K9 w.params) 84 (.type "BaseException") = some true) (hdi : hasDictIn (K9 w.params) 84 = true)
  (hq : Q v { s with toks := s.toks + 1 }) : wpAny (model prog w) A (getAttr (.ref e) name expr) Q E s := by
 obtain ⟨h, g, d, t, os⟩ := s
 have X := X₀.keeps F.keep
 obtain ⟨nm, q, N', bs, sn, sub, ab, col, dd, k0, k1, k2, k3, k5, mN, hC, hns, hni, hno⟩ := raised_cls X
 have hx : h.get? e = some oe := (N _ me).1
 have SF := PySem.F.store_Exception
 have hna := hno _ hn
 have hna1 : mN "__getattribute__" = none := hno _ (.tail _ (.head _))
 have hna2 : mN "__getattr__" = none := hno _ (.tail _ (.tail _ (.head _)))
 have f3 := S.bind (.ref e)
 have hx0 : (expr && onTheHeap (Value.builtin ga)) = false := by cases expr <;> rfl
 have hx2 : (Value.builtin ga == Value.builtin "object.__getattribute__") = false := by rw [hga]; decide +kernel
 have hx1 : (onTheHeap (Value.ref 84) && Value.builtin ga == Value.builtin "object.__getattribute__") = false := by rw [hx2]; rfl
 unfold getAttr getAttrBy
 repeat (first | (with_reducible refine wpAny_loadPart_at hx ?_; rw [hc]) | (with_reducible refine wpAny_typeLookup_exc hC hns SF.mro S.lookup ?_; rw [hna1]) | wp_step)
 refine wpAny_typeLookup_exc hC hns SF.mro lk_ga ?_
 rw [hna2]
 unfold callGetattribute
 rw [hx0]
 repeat (first | (with_reducible refine wpAny_loadPart_at hx ?_; rw [hc]) | wp_step)
 have hk : builtinKind ga = some .slot := by rw [hga]; decide +kernel
 have hsplit : splitId ga = some ("BaseException", "__getattribute__") := by rw [hga]; decide +kernel
 have hentry : entryFor table ga = some Builtin.«object.__getattribute__» := by rw [hga]; exact PySem.F.entry_bexc_ga
 have hargs : ∀ a b, argsOk ga ⟨[a, b], []⟩ := by rw [hga]; exact PySem.F.args_bexc_ga
 have I : InstAt h e oe 84 (some od) := ⟨hx, hc, by unfold notCls; rw [hf], by rw [hdt]; exact (N _ md).1⟩
 obtain ⟨es, ep, o1, o2, o3, o4⟩ := O
 have hns2 : h.Ns dx mA := ⟨od, es, ep, (N _ md).1, o1, o2, o4⟩
 refine codeAny_call_builtin S.plain hentry (check_slot hk hsplit (I.type.andThen (looks_mroIn X hm)) (hargs _ _) ?_)
 unfold Builtin.«object.__getattribute__» slotArgs
 repeat (first | wp_step)
 rw [hc]
 refine wpAny_typeLookup_exc hC hns SF.mro hB ?_
 rw [hna]
 repeat (first | (with_reducible refine wpAny_loadPart_at hx ?_; rw [hc]) | wp_step)
 split
 ·rename_i c hcd
  rw [hf] at hcd
  cases hcd
 unfold instanceDict
 repeat (first | (with_reducible refine wpAny_loadPart_at hx ?_; rw [hc]) | with_reducible refine wpAny_loadPart_at hC ?_ | wp_step)
 rw [hdt]
 repeat (first | (with_reducible refine wpAny_nsGet hns2 ?_; rw [hv]) | wp_step)
 exact hq
theorem raised_base {w : World} : mroIn (K9 w.params) 84 (.type "BaseException") = some true := by k_is
theorem raised_dict {w : World} : hasDictIn (K9 w.params) 84 = true := by k_is
theorem raised_code {w : World} : findIn (K9 w.params) (.ref 84) "code" = some none := by k_is
theorem raised_value {w : World} : findIn (K9 w.params) (.ref 84) "value" = some none := by k_is
theorem exc_code {expr : Bool} {n : Int} {t : Tok} {Q : Value → Shared → Prop} (X₀ : (K9 w.params).In h₀) (F : Fr h₀ L s.heap m) (N : News h₀ L s.heap news) (me : (e, oe) ∈ news) (md : (dx, od) ∈ news)
  (hc : oe.cls = .ref 84) (hdt : oe.dict = some dx) (hf : oe.data = .fields vs) (O : NsO od mA) (hv : mA "code" = some (.int n t)) (hq : Q (.int n t) { s with toks := s.toks + 1 }) : wpAny (model prog w) A (getAttr (.ref e) "code" expr) Q E s :=
 exc_get_ rfl slot_ga X₀ F N me md hc hdt hf O hv rfl lk_code (by simp [excNames]) raised_code raised_base raised_dict hq
theorem exc_value {expr : Bool} {x : Str} {t : Tok} {Q : Value → Shared → Prop} (X₀ : (K9 w.params).In h₀) (F : Fr h₀ L s.heap m) (N : News h₀ L s.heap news) (me : (e, oe) ∈ news) (md : (dx, od) ∈ news)
  (hc : oe.cls = .ref 84) (hdt : oe.dict = some dx) (hf : oe.data = .fields vs) (O : NsO od mA) (hv : mA "value" = some (.str x t)) (hq : Q (.str x t) { s with toks := s.toks + 1 }) : wpAny (model prog w) A (getAttr (.ref e) "value" expr) Q E s :=
 exc_get_ rfl slot_ga X₀ F N me md hc hdt hf O hv rfl lk_value (by simp [excNames]) raised_value raised_base raised_dict hq
end
noncomputable def DoesM (prog : Program) (w : World) (mean : ExcName → Option Value) (mg mb : Str → Option Value) (f : Addr) (vs : List Value) (dd uu : Nat) (news : Led) (P : Value → Led → Prop) : Prop :=
 ∀ (hv : Option Value) (dp un : Nat) (gd : Option (List Code)) (cn : Str) (cs : Scope) (a : Addr) (ccd : Value) (cl : List (Str × Addr)) (outer : List Env) (A₀ : Around) (base h₀ : Heap) (L : Addr) (m : Str → Option Value) (s : Shared) (Q E : Value → Shared → Prop),
  Below A₀ base outer h₀ → Fr h₀ L s.heap m → (K9 w.params).In h₀ → Top view9 lse mean mg mb h₀ → News h₀ L s.heap news → cs.kind = .function → dp + dd < recursionLimit → un + uu < cLine →
  (∀ r h' tk' news', Fr h₀ L h' m → News h₀ L h' news' → P r news' → Q r { s with heap := h', toks := tk' }) →
  wpAny (model prog w) { handled := hv, depth := dp, frames := some (envX cn cs L a ccd cl :: outer), guards := gd, units := un } (call (.ref f) vs) Q E s
noncomputable def toldS (n : Int) (x : Str) : Str := if n = 1 then x else if n = 3 then "invoked \"break\" outside of a loop" else if n = 4 then "invoked \"continue\" outside of a loop" else Str.ofString "command returned bad code: " ++ Str.ofString (toString n)
theorem told_does {prog : Program} {w : World} {mean : ExcName → Option Value} {mg mb : Str → Option Value} {news : Led} {e dx : Addr} {oe od : Obj} {vs : Array Value} {mA : Str → Option Value} {n : Int} {x : Str}
  (me : (e, oe) ∈ news) (md : (dx, od) ∈ news) (hc : oe.cls = .ref 84) (hdt : oe.dict = some dx) (hf : oe.data = .fields vs) (O : NsO od mA) (hv : ExcMap n x mA) (h0 : 0 ≤ n) (h1 : n < 1000) :
  DoesM prog w mean mg mb 174 [.ref e] 1 20 news (fun v news' => ∃ t, v = .str (toldS n x) t ∧ news' = news) := by
 intro hv' dp un gd cn cs a ccd cl outer A₀ base h₀ L m s Q E B F X T N hk hd hu hret
 obtain ⟨⟨t1, hv1⟩, t2, hv2⟩ := hv
 refine wpAny_call ?_
 k_dflt ktr_enter
 k_with "getAttr ref" => ((fail_if_success (fail_if_success (have h9 := in_D4))); ((first | (refine' exc_code (n := n) (t := t1) (by k_asm) (by assumption) (by assumption) me md hc hdt hf O hv1 ?_) | (refine' exc_value (x := x) (t := t2) (by k_asm) (by assumption) (by assumption) me md hc hdt hf O hv2 ?_))))
 f_tup
 k_steps
 all_goals refine' hret _ _ _ _ (by assumption) (by assumption) ⟨_, congrArg (fun z => Value.str z _) ?_, rfl⟩
 all_goals unfold toldS
 ·rw [if_pos (by assumption)]
 ·rw [if_neg (by assumption), if_pos (by assumption)]
 ·rw [if_neg (by assumption), if_neg (by assumption), if_pos (by assumption)]
 ·rw [if_neg (by assumption), if_neg (by assumption), if_neg (by assumption)]

end
theorem In_D5.in_D5 : True := trivial
noncomputable section
open In_D5 Off9 Noi9
section
variable {prog : Program} {w : World} {A : Around} {E : Value → Shared → Prop} {s : Shared} {env : Env} {h₀ : Heap} {L : Addr} {m : Str → Option Value}
noncomputable def RaiseOwn (w : World) (E : Value → Shared → Prop) (v : Value) (s : Shared) : Prop :=
 ∃ e oe vs, v = .ref e ∧ (K9 w.params).In s.heap ∧ s.heap.get? e = some oe ∧ oe.cls = .ref 84 ∧ oe.data = .fields vs ∧ vs[1]? = some .none ∧ E (.ref e) s
theorem raise_own {x : Expr} {pos : Pos} {Q : Flow → Shared → Prop} (hh : A.handled = none) (h : wpAny (model prog w) A (eval x env) (RaiseOwn w E) E s) :
  wpAny (model prog w) A (exec (.Raise (some x) none pos) env) Q E s := by
 rw [arm_exec_Raise]
 show wpAny _ A (do standAt pos; raiseStmt env (some (do let v ← eval x env; standAt pos; pure v)) none) Q E s
 refine wpAny_bind (wpAny_standAt ?_)
 unfold raiseStmt
 refine wpAny_bind (wpAny_bind (wpAny_mono h (fun v s₁ h₁ => wpAny_bind (wpAny_standAt (wpAny_pure ?_))) fun _ _ x => x))
 obtain ⟨e, oe, vs, rfl, X, he, hc, hf, h1, hE⟩ := h₁
 obtain ⟨hp, g, d, tk, os⟩ := s₁
 obtain ⟨nm, q, N', bs, sn, sub, ab, col, dd, k0, k1, k2, k3, k5, mN, hC, hn, hni, hno⟩ := raised_cls X
 have hcB : (Value.ref 84 :: excBm).contains (.type "BaseException") = true := by rw [List.contains_cons]; simp
 repeat (first | (with_reducible refine wpAny_loadPart_at he ?_; rw [hc]) | with_reducible refine wpAny_loadPart_at hC ?_ | (with_reducible refine wpAny_isSubtype_exc hC ?_; rw [hcB]) | wp_step)
 rw [hf]
 refine wpAny_pure ?_
 rw [h1]
 refine wpAny_pure ?_
 rw [if_neg (by decide)]
 exact wpAny_pure (wpAny_raiseNew_none hh hE)
end
section
variable {prog : Program} {w : World} {A : Around} {E : Value → Shared → Prop} {s : Shared} {env : Env} {h₀ : Heap} {x : Str} {body : List Stmt} {Q : Flow → Shared → Prop}
noncomputable def UEnd {σ : Type} (h₀ : Heap) (L : Addr) (x : Str) (m₀ : Str → Option Value) (M : σ → Led) (rest : Led) (P : Led → σ → Prop) (own tl : Led) (s₁ s₂ : Shared) : Prop :=
 ∃ h' tk m' c' add, s₂ = { s₁ with heap := h', toks := tk } ∧ Fr h₀ L h' m' ∧ (∀ y, y ≠ x → m' y = m₀ y) ∧ News h₀ L h' (M c' ++ (add ++ (tl ++ (own ++ rest)))) ∧ (∀ p ∈ M c' ++ add, ∀ q ∈ own, q.1 ≠ p.1) ∧ P (add ++ tl) c'
noncomputable def UPost {σ : Type} (h₀ : Heap) (L : Addr) (x : Str) (m₀ : Str → Option Value) (M : σ → Led) (rest : Led) (P : Led → σ → Prop) (own tl : Led) (s₁ : Shared) (Q : Flow → Shared → Prop) (f : Flow) (s₂ : Shared) : Prop :=
 match f with
 |.ret v => Q (.ret v) s₂
 |.brk => Q .next s₂
 |_ => UEnd h₀ L x m₀ M rest P own tl s₁ s₂
theorem UPost.next {σ : Type} {L : Addr} {m₀ m' : Str → Option Value} {M : σ → Led} {rest all : Led} {P : Led → σ → Prop} {own tl : Led} {s₁ : Shared} {h' : Heap} {tk : Nat} (c' : σ) (add : Led) (F : Fr h₀ L h' m') (N : News h₀ L h' all) (hm : ∀ y, y ≠ x → m' y = m₀ y)
  (sub : ∀ p ∈ M c' ++ (add ++ (tl ++ (own ++ rest))), p ∈ all) (hn : ∀ p ∈ M c' ++ add, ∀ q ∈ own, q.1 ≠ p.1) (hp : P (add ++ tl) c') : UPost h₀ L x m₀ M rest P own tl s₁ Q .next { s₁ with heap := h', toks := tk } :=
 ⟨h', tk, m', c', add, rfl, F, hm, fun p hp => N p (sub p hp), hn, hp⟩
theorem loopU {α σ : Type} (enc : α → Dat) (M : σ → Led) (rest : Led) (P : List α → Led → σ → Prop) {l : Addr} {vs : List Value} {nn : Nat} {ds : List α} {r : Led} {m₀ : Str → Option Value} {c₀ : σ}
  (hl : (l, listOf vs.toArray nn) ∈ rest) (D : DatAll r vs (ds.map enc)) (hh : A.handled = none) (F : Fr h₀ env.locals s.heap m₀) (N : News h₀ env.locals s.heap (M c₀ ++ rest)) (hp : P [] [] c₀)
  (turn : ∀ pre d post v c tl h tk own, ds = pre ++ d :: post → DatIn r v (enc d) → P pre tl c → (∀ q ∈ M c ++ (tl ++ rest), ∀ p ∈ own, p.1 ≠ q.1) →
   Fr h₀ env.locals h (fun y => if y = x then some v else m₀ y) → News h₀ env.locals h (M c ++ (tl ++ (own ++ rest))) →
   wpAny (model prog w) A (execs body env) (UPost h₀ env.locals x m₀ M rest (P (pre ++ [d])) own tl { s with heap := h, toks := tk } Q) E { s with heap := h, toks := tk })
  (done : ∀ c tl (u : Option Value) h tk, P ds tl c → Fr h₀ env.locals h (fun y => if y = x then u else m₀ y) → News h₀ env.locals h (M c ++ (tl ++ rest)) → Q .next { s with heap := h, toks := tk }) :
  wpAny (model prog w) A (pyIter (.ref l)) (fun it s₂ => LoopAtV prog w A h₀ env x body Q E it s₂) E s := by
 have norm : ∀ {m' : Str → Option Value}, (∀ y, y ≠ x → m' y = m₀ y) → m' = fun y => if y = x then m' x else m₀ y := by
  intro m' h
  funext y
  by_cases hy : y = x
  ·subst hy; simp
  ·simp only [if_neg hy]; exact h y hy
 have hlen : vs.length = ds.length := by rw [D.length, List.length_map]
 refine kdl_iter (news := M c₀ ++ rest) (fun i m nx => ∃ c tl, nx = M c ++ (tl ++ rest) ∧ P (ds.take i) tl c ∧ ∀ y, y ≠ x → m y = m₀ y) hh (List.mem_append_right _ hl) F N ⟨c₀, [], by simp, by simpa using hp, fun _ _ => rfl⟩ ?_ ?_
 ·rintro i v m₁ nx h tk own hv hoff hmem ⟨c, tl, rfl, hp', hm⟩ F₁ N₁
  have hi : i < ds.length := by rw [← hlen]; exact (List.getElem?_eq_some_iff.mp hv).1
  obtain ⟨v', hv', hd⟩ := D.get (k := i) (by rw [List.length_map]; exact hi)
  rw [hv] at hv'
  cases hv'
  rw [List.getElem_map] at hd
  have hs : ds.take (i + 1) = ds.take i ++ [ds[i]] := by rw [List.take_add_one, List.getElem?_eq_getElem hi]; rfl
  have e : ds = ds.take i ++ ds[i] :: ds.drop (i + 1) := by
   have h9 := List.take_append_drop (i + 1) ds
   rw [hs, List.append_assoc] at h9
   exact h9.symm
  have F₂ : Fr h₀ env.locals h (fun y => if y = x then some v else m₀ y) := by
   have e2 : (fun y => if y = x then some v else m₁ y) = fun y => if y = x then some v else m₀ y := by
    funext y
    by_cases hy : y = x
    ·simp [hy]
    ·simp only [if_neg hy]; exact hm y hy
   rw [← e2]; exact F₁
  have o1 : ∀ q ∈ M c ++ (tl ++ rest), ∀ p ∈ own, p.1 ≠ q.1 := fun q hq p hp => hoff p hp _ (List.mem_map_of_mem hq)
  refine wpAny_mono (turn (ds.take i) ds[i] (ds.drop (i + 1)) v c tl h tk own e hd hp' o1 F₂ (fun p hp => N₁ p ?_)) (fun f s₂ q => ?_) fun _ _ e => e
  ·simp only [List.mem_append] at hp ⊢
   rcases hp with h | h | h | h <;> simp [h]
  have up : UEnd h₀ env.locals x m₀ M rest (P (ds.take i ++ [ds[i]])) own tl { s with heap := h, toks := tk } s₂ →
    InvEndG h₀ env.locals (fun m' nx => (l, listOf vs.toArray nn) ∈ nx ∧ ∃ c tl, nx = M c ++ (tl ++ rest) ∧ P (ds.take (i + 1)) tl c ∧ ∀ y, y ≠ x → m' y = m₀ y) own { s with heap := h, toks := tk } s₂ := by
   rintro ⟨h', tk', m', c', add, rfl, F', hm', N', hn', hp''⟩
   refine ⟨h', tk', m', _, M c' ++ ((add ++ tl) ++ rest), rfl, F', N', fun p hp => ?_, fun p hp => ?_, fun p hp b hb => ?_, List.mem_append_right _ (List.mem_append_right _ hl), c', add ++ tl, rfl, by rw [hs]; exact hp'', hm'⟩
   ·simp only [List.mem_append] at hp ⊢
    rcases hp with h | (h | h) | h <;> simp [h]
   ·simp [hp]
   ·obtain ⟨q', hq', rfl⟩ := List.mem_map.mp hb
    rcases List.mem_append.mp hq' with hq' | hq'
    ·exact hn' q' (List.mem_append_left _ hq') p hp
    rcases List.mem_append.mp hq' with hq' | hq'
    ·rcases List.mem_append.mp hq' with hq' | hq'
     ·exact hn' q' (List.mem_append_right _ hq') p hp
     ·exact o1 q' (List.mem_append_right _ (List.mem_append_left _ hq')) p hp
    ·exact o1 q' (List.mem_append_right _ (List.mem_append_right _ hq')) p hp
  cases f with
  |ret v => exact q
  |brk => exact q
  |next => exact up q
  |cont => exact up q
 ·rintro m₁ nx h tk ⟨c, tl, rfl, hp', hm⟩ F₁ N₁
  rw [hlen, List.take_length] at hp'
  rw [norm hm] at F₁
  exact done c tl _ h tk hp' F₁ N₁
end

end
theorem In_D6.in_D6 : True := trivial
noncomputable section
open In_D6
inductive ActsR : List (Int × Int × Str) → EvS → EvS → Option (Int × Str) → Prop
 |nil {a : EvS} : ActsR [] a a none
 |stop {n : Int} {x : Str} {l : List (Int × Int × Str)} {a : EvS} : ActsR ((3, n, x) :: l) a a (some (n, x))
 |step {k wt : Int} {x : Str} {l : List (Int × Int × Str)} {a b c : EvS} {o : Option (Int × Str)} : k ≠ 3 → DoneR k wt x a b → ActsR l b c o → ActsR ((k, wt, x) :: l) a c o
theorem ActsR.app {l l' : List (Int × Int × Str)} {a b c : EvS} {o : Option (Int × Str)} (h : ActsR l a b none) (h' : ActsR l' b c o) : ActsR (l ++ l') a c o := by
 generalize ho : (none : Option (Int × Str)) = p at h
 induction h with
 |nil => exact h'
 |stop => cases ho
 |step h1 h2 _ ih => exact .step h1 h2 (ih h' ho)
noncomputable def lgD (nm : Str) (a : EvS) : Dat := .tuple [.str nm, .int a.now, .int a.q.length, .int a.i.length]
noncomputable abbrev started (a : EvS) (nm : Str) : EvS := { a with log := a.log ++ [lgD nm a] }
theorem started_B {a : EvS} {n : Nat} {nm : Str} (h : EvB a (n + 1)) : EvB (started a nm) n := by
 obtain ⟨a1, a2, a3, a4, a5, a6⟩ := h
 exact ⟨a1, a2, a3, by dsimp only; w_how, by dsimp only; w_how, by dsimp only; simp only [List.length_append, List.length_cons, List.length_nil]; w_how⟩
theorem my_item0 {prog : Program} {w : World} {A : Around} {E : Value → Shared → Prop} {s : Shared} {h₀ : Heap} {L l : Addr} {news : Led} {v : Value} {n : Nat} {u : Tok} {value slice : PySem.Expr} {Q : Value → Shared → Prop} (N : News h₀ L s.heap news) (hm : (l, listOf [v].toArray n) ∈ news) (h : Q v s)
  (hs : subscripted slice false (.ref l) (.int 0 u) = operate [.ref l, .int 0 u] (getItem (.ref l) (.int 0 u)) := by with_unfolding_all rfl) :
  wpAny (model prog w) A (subscriptTail value slice (.ref l) (.int 0 u)) Q E s := by
 have hl := News.isList N hm
 exact tail_any hl.typeIs slot_list_getitem.lookup (wpAny_getItem_list hl (by decide) (by decide) (by first | k_mem | simp) h) hs
theorem Fly.sub {mA : Str → Option Value} {fl : Value} {e T dx : Addr} {oe oT od : Obj} {l l' : Led} (h : Fly mA fl e T dx oe oT od l) (hs : ∀ p ∈ l', p ∈ l) : Fly mA fl e T dx oe oT od l' := by
 obtain ⟨b1, b2, b3, b4, b5, bn, b6, b7, b8⟩ := h
 refine ⟨b1, b2, b3, b4, b5, bn, fun p hp => ?_, fun p hp => ?_, fun p hp => b8 p (hs p hp)⟩
 ·rcases List.mem_cons.mp hp with rfl | hp
  ·exact b6 _ (.head _)
  ·exact b6 p (.tail _ (hs p hp))
 ·rcases List.mem_cons.mp hp with rfl | hp
  ·exact b7 _ (.head _)
  ·exact b7 p (.tail _ (hs p hp))
theorem EvRep.mono {r r' : Led} {c : EvC} {a : EvS} (h : EvRep r c a) (hs : ∀ p ∈ r, p ∈ r') : EvRep r' c a := ⟨h.q.mono hs, h.i.mono hs, h.l.mono hs⟩
section
variable {ev ed lg D y : Addr} {o : Obj} {own mt tl r t t' add : Led}
theorem mem_fx : y ∈ fx ev ed lg t ↔ y = ev ∨ y = ed ∨ y = lg ∨ y ∈ t.map (·.1) := by simp only [fx, List.mem_cons]
theorem fx_mono (h : ∀ p ∈ t, p ∈ t') (hy : y ∈ fx ev ed lg t) : y ∈ fx ev ed lg t' := mem_fx.mpr ((mem_fx.mp hy).imp_right (·.imp_right (·.imp_right fun h1 => by
 obtain ⟨p, hp, e⟩ := List.mem_map.mp h1
 exact List.mem_map.mpr ⟨p, h p hp, e⟩)))
theorem fx_app : y ∈ fx ev ed lg (t ++ t') ↔ y ∈ t.map (·.1) ∨ y ∈ fx ev ed lg t' := by
 rw [mem_fx, mem_fx, List.map_append, List.mem_append]
 constructor
 ·rintro (h | h | h | h | h)
  ·exact .inr (.inl h)
  ·exact .inr (.inr (.inl h))
  ·exact .inr (.inr (.inr (.inl h)))
  ·exact .inl h
  ·exact .inr (.inr (.inr (.inr h)))
 ·rintro (h | h | h | h | h)
  ·exact .inr (.inr (.inr (.inl h)))
  ·exact .inl h
  ·exact .inr (.inl h)
  ·exact .inr (.inr (.inl h))
  ·exact .inr (.inr (.inr (.inr h)))
theorem fx_one : y ∈ fx ev ed lg ((D, o) :: t) ↔ y = D ∨ y ∈ fx ev ed lg t := (fx_app (t := [(D, o)])).trans (or_congr_left List.mem_singleton)
theorem fx_cons : y ∈ fx ev ed lg (mt ++ (D, o) :: r) ↔ y = D ∨ y ∈ fx ev ed lg (mt ++ r) := by rw [fx_app, fx_one, fx_app, or_left_comm]
theorem fx_split (h : y ∈ fx ev ed lg ((own ++ mt) ++ (tl ++ r))) : y ∈ own.map (·.1) ∨ y ∈ tl.map (·.1) ++ fx ev ed lg (mt ++ r) := by
 rw [fx_app, List.map_append, List.mem_append, fx_app] at h
 rw [List.mem_append, fx_app]
 rcases h with (h | h) | h | h
 ·exact .inl h
 ·exact .inr (.inr (.inl h))
 ·exact .inr (.inl h)
 ·exact .inr (.inr (.inr h))
theorem fx_out (h : y ∈ (tl ++ [(D, o)]).map (·.1) ++ fx ev ed lg (mt ++ r)) : y ∈ tl.map (·.1) ++ fx ev ed lg (mt ++ (D, o) :: r) := by
 rw [List.map_append, List.append_assoc] at h
 exact (List.mem_append.mp h).elim (List.mem_append_left _) fun h => List.mem_append_right _ (fx_cons.mpr (List.mem_cons.mp h))
theorem fx_back (h : y ∈ (add ++ tl).map (·.1) ++ fx ev ed lg (mt ++ r)) : y ∈ add.map (·.1) ++ fx ev ed lg ((own ++ mt) ++ (tl ++ r)) := by
 rw [List.map_append, List.append_assoc] at h
 refine (List.mem_append.mp h).elim (List.mem_append_left _) fun h => List.mem_append_right _ ?_
 rcases List.mem_append.mp h with h | h
 ·exact fx_app.mpr (.inr (fx_app.mpr (.inl h)))
 ·exact fx_mono (by kqd_sub) h
theorem fx_own {p : Addr × Obj} (h : p ∈ own) : p.1 ∈ fx ev ed lg ((own ++ mt) ++ t) := fx_app.mpr (.inl (List.mem_map_of_mem (List.mem_append_left _ h)))
theorem off_one (h1 : D ≠ ev) (h2 : D ≠ ed) (h3 : D ≠ lg) (h4 : ∀ p ∈ t, p.1 ≠ D) : Off (fx ev ed lg t) [(D, o)] := fun p hp z => by
 rw [List.mem_singleton.mp hp] at z
 rcases mem_fx.mp z with z | z | z | z
 ·exact h1 z
 ·exact h2 z
 ·exact h3 z
 ·obtain ⟨p, hp, e⟩ := List.mem_map.mp z
  exact h4 p hp e
end
namespace law_command_h
noncomputable abbrev T9 : Type := Program × World × (ExcName → Option Value) × (Str → Option Value) × (Str → Option Value) × Led × Led × Addr × Addr × Addr × Addr × Addr × Addr × Addr × Nat × Nat × Nat × Nat × Addr × Addr × Addr × (Nat → Tok) × Tok × Tok × Nat × Nat × Nat × List Value × List Value × List Value × Int × Int × List (Int × Int × Str) × List (Int × Str) × List Dat × Str × Tok × List Value × List (Int × Int × Str) × Cx
noncomputable def S9 (prog : Program) (w : World) (mean : ExcName → Option Value) (mg : Str → Option Value) (mb : Str → Option Value) (mt : Led) (r : Led) (ev : Addr) (ed : Addr) (lg : Addr) (ho : Addr) (wd : Addr) (dt : Addr) (al : Addr) (nw : Nat) (ndt : Nat) (na : Nat) (n : Nat) (q : Addr) (i : Addr) (er : Addr) (kk : Nat → Tok) (tn : Tok) (tm : Tok) (nq : Nat) (ni : Nat) (nl : Nat) (qs : List Value) (is : List Value) (ls : List Value) (now : Int) (num : Int) (ds : List (Int × Int × Str)) (es : List (Int × Str)) (log : List Dat) (nm : Str) (tw : Tok) (as : List Value) (acts : List (Int × Int × Str)) (x9 : Cx) : Prop :=
 ∀ (S : Fix ev ed lg (mt ++ r)) (Z : Loose (fx ev ed lg (mt ++ r)) (⟨q, i, er, kk, tn, tm, nq, ni, nl, qs, is, ls⟩ : EvC)) (R : EvRep r (⟨q, i, er, kk, tn, tm, nq, ni, nl, qs, is, ls⟩ : EvC) (⟨now, num, ds, es, log⟩ : EvS)) (wf : EvB (⟨now, num, ds, es, log⟩ : EvS) (acts.length + n + 2)) (hw : (wd, listOf [.str nm tw].toArray nw) ∈ mt ++ r) (hdt : (dt, tupO [.ref ev, .ref lg, .ref al] ndt) ∈ mt ++ r) (hal : (al, listOf as.toArray na) ∈ mt ++ r) (DA : DatAll r as (acts.map tD)) (hac : acts.length < 1000), DoesX.at prog w mean mg mb 585 [.ref ho, .ref wd, .ref dt] 8 60 (evL w.params ev ed lg (⟨q, i, er, kk, tn, tm, nq, ni, nl, qs, is, ls⟩ : EvC) (⟨now, num, ds, es, log⟩ : EvS) (mt ++ r))
   (fun v news' => ∃ t add c' b, v = .str "done" t ∧ ActsR acts (started (⟨now, num, ds, es, log⟩ : EvS) nm) b none ∧ EvB b n ∧ EvRep (add ++ r) c' b ∧ Off (fx ev ed lg (mt ++ r)) add ∧ Loose (add.map (·.1) ++ fx ev ed lg (mt ++ r)) c' ∧ c'.er = (⟨q, i, er, kk, tn, tm, nq, ni, nl, qs, is, ls⟩ : EvC).er ∧ news' = evL w.params ev ed lg c' b (mt ++ (add ++ r)))
   (fun e news' => ∃ add c' b k x mA T dx oe oT od, ActsR acts (started (⟨now, num, ds, es, log⟩ : EvS) nm) b (some (k, x)) ∧ EvB b n ∧ EvRep (add ++ r) c' b ∧ Off (fx ev ed lg (mt ++ r)) add ∧ Loose (add.map (·.1) ++ fx ev ed lg (mt ++ r)) c' ∧ c'.er = (⟨q, i, er, kk, tn, tm, nq, ni, nl, qs, is, ls⟩ : EvC).er ∧
    ExcMap k x mA ∧ Fly mA .none e T dx oe oT od (evL w.params ev ed lg c' b (mt ++ (add ++ r))) ∧ news' = (e, oe) :: (T, oT) :: (dx, od) :: evL w.params ev ed lg c' b (mt ++ (add ++ r))) x9.1 x9.2.1 x9.2.2.1 x9.2.2.2.1 x9.2.2.2.2.1 x9.2.2.2.2.2.1 x9.2.2.2.2.2.2.1 x9.2.2.2.2.2.2.2.2.1 x9.2.2.2.2.2.2.2.2.2.1 x9.2.2.2.2.2.2.2.2.2.2.1 x9.2.2.2.2.2.2.2.2.2.2.2.1 x9.2.2.2.2.2.2.2.2.2.2.2.2.1 x9.2.2.2.2.2.2.2.2.2.2.2.2.2.1 x9.2.2.2.2.2.2.2.2.2.2.2.2.2.2.1 x9.2.2.2.2.2.2.2.2.2.2.2.2.2.2.2.1 x9.2.2.2.2.2.2.2.2.2.2.2.2.2.2.2.2
noncomputable def P9 : T9 → Prop := cur fun prog => cur fun w => cur fun mean => cur fun mg => cur fun mb => cur fun mt => cur fun r => cur fun ev => cur fun ed => cur fun lg => cur fun ho => cur fun wd => cur fun dt => cur fun al => cur fun nw => cur fun ndt => cur fun na => cur fun n => cur fun q => cur fun i => cur fun er => cur fun kk => cur fun tn => cur fun tm => cur fun nq => cur fun ni => cur fun nl => cur fun qs => cur fun is => cur fun ls => cur fun now => cur fun num => cur fun ds => cur fun es => cur fun log => cur fun nm => cur fun tw => cur fun as => cur fun acts => fun x9 => S9 prog w mean mg mb mt r ev ed lg ho wd dt al nw ndt na n q i er kk tn tm nq ni nl qs is ls now num ds es log nm tw as acts x9
theorem ex9 : ∃ x, P9 x → ∀ y, P9 y := drinker P9 (PySem.Challenge.rw_np0139_01.prog, w0, default, default, default, default, default, default, default, default, default, default, default, default, default, default, default, default, default, default, default, default, default, default, default, default, default, default, default, default, default, default, default, default, default, default, default, default, default, cx0)
@[irreducible] def c9 : T9 := Classical.choose ex9
@[irreducible] def prog := c9.1
@[irreducible] def w := c9.2.1
@[irreducible] def mean := c9.2.2.1
@[irreducible] def mg := c9.2.2.2.1
@[irreducible] def mb := c9.2.2.2.2.1
@[irreducible] def mt := c9.2.2.2.2.2.1
@[irreducible] def r := c9.2.2.2.2.2.2.1
@[irreducible] def ev := c9.2.2.2.2.2.2.2.1
@[irreducible] def ed := c9.2.2.2.2.2.2.2.2.1
@[irreducible] def lg := c9.2.2.2.2.2.2.2.2.2.1
@[irreducible] def ho := c9.2.2.2.2.2.2.2.2.2.2.1
@[irreducible] def wd := c9.2.2.2.2.2.2.2.2.2.2.2.1
@[irreducible] def dt := c9.2.2.2.2.2.2.2.2.2.2.2.2.1
@[irreducible] def al := c9.2.2.2.2.2.2.2.2.2.2.2.2.2.1
@[irreducible] def nw := c9.2.2.2.2.2.2.2.2.2.2.2.2.2.2.1
@[irreducible] def ndt := c9.2.2.2.2.2.2.2.2.2.2.2.2.2.2.2.1
@[irreducible] def na := c9.2.2.2.2.2.2.2.2.2.2.2.2.2.2.2.2.1
@[irreducible] def n := c9.2.2.2.2.2.2.2.2.2.2.2.2.2.2.2.2.2.1
@[irreducible] def q := c9.2.2.2.2.2.2.2.2.2.2.2.2.2.2.2.2.2.2.1
@[irreducible] def i := c9.2.2.2.2.2.2.2.2.2.2.2.2.2.2.2.2.2.2.2.1
@[irreducible] def er := c9.2.2.2.2.2.2.2.2.2.2.2.2.2.2.2.2.2.2.2.2.1
@[irreducible] def kk := c9.2.2.2.2.2.2.2.2.2.2.2.2.2.2.2.2.2.2.2.2.2.1
@[irreducible] def tn := c9.2.2.2.2.2.2.2.2.2.2.2.2.2.2.2.2.2.2.2.2.2.2.1
@[irreducible] def tm := c9.2.2.2.2.2.2.2.2.2.2.2.2.2.2.2.2.2.2.2.2.2.2.2.1
@[irreducible] def nq := c9.2.2.2.2.2.2.2.2.2.2.2.2.2.2.2.2.2.2.2.2.2.2.2.2.1
@[irreducible] def ni := c9.2.2.2.2.2.2.2.2.2.2.2.2.2.2.2.2.2.2.2.2.2.2.2.2.2.1
@[irreducible] def nl := c9.2.2.2.2.2.2.2.2.2.2.2.2.2.2.2.2.2.2.2.2.2.2.2.2.2.2.1
@[irreducible] def qs := c9.2.2.2.2.2.2.2.2.2.2.2.2.2.2.2.2.2.2.2.2.2.2.2.2.2.2.2.1
@[irreducible] def is := c9.2.2.2.2.2.2.2.2.2.2.2.2.2.2.2.2.2.2.2.2.2.2.2.2.2.2.2.2.1
@[irreducible] def ls := c9.2.2.2.2.2.2.2.2.2.2.2.2.2.2.2.2.2.2.2.2.2.2.2.2.2.2.2.2.2.1
@[irreducible] def now := c9.2.2.2.2.2.2.2.2.2.2.2.2.2.2.2.2.2.2.2.2.2.2.2.2.2.2.2.2.2.2.1
@[irreducible] def num := c9.2.2.2.2.2.2.2.2.2.2.2.2.2.2.2.2.2.2.2.2.2.2.2.2.2.2.2.2.2.2.2.1
@[irreducible] def ds := c9.2.2.2.2.2.2.2.2.2.2.2.2.2.2.2.2.2.2.2.2.2.2.2.2.2.2.2.2.2.2.2.2.1
@[irreducible] def es := c9.2.2.2.2.2.2.2.2.2.2.2.2.2.2.2.2.2.2.2.2.2.2.2.2.2.2.2.2.2.2.2.2.2.1
@[irreducible] def log := c9.2.2.2.2.2.2.2.2.2.2.2.2.2.2.2.2.2.2.2.2.2.2.2.2.2.2.2.2.2.2.2.2.2.2.1
@[irreducible] def nm := c9.2.2.2.2.2.2.2.2.2.2.2.2.2.2.2.2.2.2.2.2.2.2.2.2.2.2.2.2.2.2.2.2.2.2.2.1
@[irreducible] def tw := c9.2.2.2.2.2.2.2.2.2.2.2.2.2.2.2.2.2.2.2.2.2.2.2.2.2.2.2.2.2.2.2.2.2.2.2.2.1
@[irreducible] def as := c9.2.2.2.2.2.2.2.2.2.2.2.2.2.2.2.2.2.2.2.2.2.2.2.2.2.2.2.2.2.2.2.2.2.2.2.2.2.1
@[irreducible] def acts := c9.2.2.2.2.2.2.2.2.2.2.2.2.2.2.2.2.2.2.2.2.2.2.2.2.2.2.2.2.2.2.2.2.2.2.2.2.2.2.1
@[irreducible] def x9 := c9.2.2.2.2.2.2.2.2.2.2.2.2.2.2.2.2.2.2.2.2.2.2.2.2.2.2.2.2.2.2.2.2.2.2.2.2.2.2.2
abbrev h₀ := x9.2.2.2.2.2.2.2.2.2.2.2.1
theorem core9 : S9 prog w mean mg mb mt r ev ed lg ho wd dt al nw ndt na n q i er kk tn tm nq ni nl qs is ls now num ds es log nm tw as acts x9 := by
 refine wr_z (by
 intro S Z R wf hw hdt hal DA hac B F XB TB DK N hk hdp hu hret hexc
 have X : (K9 w.params).In h₀ := XB.keeps B.stays
 have T : Top view9 lse mean mg mb h₀ := TB.keeps B.stays
 f_tup
 first | (refine arr ?_ (id R); km_mul D; km_mul D2; intro D3) | (obtain ⟨D, D2, D3⟩ := id R)
 f_tup
 first | (refine arr ?_ (id wf); km_mul hnd; km_mul hlo; km_mul hn0; km_mul hn1; km_mul hfew; intro hlog) | (obtain ⟨hnd, hlo, hn0, hn1, hfew, hlog⟩ := id wf)
 dsimp only at D D2 D3 hnd hlo hn0 hn1 hfew hlog
 have hl : qs.length = ds.length := by rw [D.length, List.length_map]
 have hl2 : is.length = es.length := by rw [D2.length, List.length_map]
 have hl3 : ls.length = log.length := D3.length
 f_tup
 first | (refine arr ?_ (id S); km_mul s1; km_mul s2; km_mul s3; km_mul s4; km_mul s5; intro s6) | (obtain ⟨s1, s2, s3, s4, s5, s6⟩ := id S)
 f_tup
 first | (refine arr ?_ (id Z); km_mul z1; km_mul z2; intro z3) | (obtain ⟨z1, z2, z3⟩ := id Z)
 simp only [fx, List.mem_cons, List.mem_map, not_or, not_exists, not_and] at z1 z2
 f_tup
 (revert z1; km_mul z11; km_mul z12; km_mul z13; intro z14)
 f_tup
 (revert z2; km_mul z21; km_mul z22; km_mul z23; intro z24)
 dsimp only at z3 z11 z12 z13 z14 z21 z22 z23 z24
 simp only [evL] at N
 refine wpAny_call ?_
 k_dflt walk_at "enterX"
 k_with "subscriptTail" => ((fail_if_success (fail_if_success (have h9 := in_D6))); ((refine Stop.out ?_)))
 f_tup
 k_steps
 refine Stop.mk ?_
 f_tup
 refine my_item0 (by k_asm) (.tail _ (.tail _ (.tail _ (.tail _ (.tail _ hw))))) ?_
 k_with "pyIter ref" => ((fail_if_success (fail_if_success (have h9 := in_D6))); ((refine Stop.out ?_)))
 f_tup
 k_steps
 refine Stop.mk ?_
 f_tup
 rename News _ _ _ _ => N9
 rename Fr _ _ _ _ => F9
 f_tup
 (refine arr ?_ (fr_names F9); km_mul g9; km_mul L9; k_extra "st"; k_extra "sr"; k_extra "sr")
 f_tup
 (refine arr ?_ (led1 N9); km_mul D7; km_mul o7; k_extra "st"; k_extra "sr"; intro e7)
 rw [← e7] at N9
 have hsub : ∀ p ∈ r, p ∈ (D7, o7) :: r := fun p hp => .tail _ hp
 have hlt : ∀ p ∈ mt ++ r, p.1 < D7 := lt_sub (by with_reducible assumption) (fun p9 hp9 => by k_mem)
 have hDl : DatAll ((D7, o7) :: r) (ls.concat (.ref D7)) (log ++ [lgD nm ⟨now, num, ds, es, log⟩]) := by
  first | rw [List.concat_eq_append] | rw [Array.toList_push]
  refine (D3.mono hsub).append (.one ?_)
  rw [e7]
  refine .tuple (.head _) (.cons (.str _ _) (.cons (.int _ _) (.cons ?_ (.cons ?_ .nil))))
  ·rw [← hl]; exact .int _ _
  ·rw [← hl2]; exact .int _ _
 have hO7 : Off (fx ev ed lg (mt ++ r)) [(D7, o7)] := off_one (by k_ne) (by k_ne) (by k_ne) fun p hp => Nat.ne_of_lt (hlt p hp)
 have hfx : ∀ x, x ∈ fx ev ed lg (mt ++ (D7, o7) :: r) ↔ x = D7 ∨ x ∈ fx ev ed lg (mt ++ r) := fun x => fx_cons
 have S2 : Fix ev ed lg (mt ++ (D7, o7) :: r) := (S.add hO7).sub fun p hp => List.mem_map_of_mem ((by kqd_sub : ∀ q ∈ mt ++ (D7, o7) :: r, q ∈ [(D7, o7)] ++ (mt ++ r)) p hp)
 have hq7 : q ≠ D7 := by k_ne
 have hi7 : i ≠ D7 := by k_ne
 have out : ∀ (tl : Led) (c : EvC), Off (fx ev ed lg (mt ++ (D7, o7) :: r)) tl → Loose (tl.map (·.1) ++ fx ev ed lg (mt ++ (D7, o7) :: r)) c → Off (fx ev ed lg (mt ++ r)) (tl ++ [(D7, o7)]) ∧ Loose ((tl ++ [(D7, o7)]).map (·.1) ++ fx ev ed lg (mt ++ r)) c := fun tl c h1 h2 =>
  ⟨(h1.sub fun x hx => (hfx x).mpr (.inr hx)).app hO7, h2.sub fun x hx => fx_out hx⟩
 (try (with_reducible refine unw (by assumption) ?_))
 refine loopU tD (fun cb : EvC × EvS => evL w.params ev ed lg cb.1 cb.2 []) (mt ++ (D7, o7) :: r) (fun pre tl cb => ActsR pre (started ⟨now, num, ds, es, log⟩ nm) cb.2 none ∧ EvB cb.2 (acts.length - pre.length + n + 1) ∧ EvRep (tl ++ (D7, o7) :: r) cb.1 cb.2 ∧ Off (fx ev ed lg (mt ++ (D7, o7) :: r)) tl ∧ Loose (tl.map (·.1) ++ fx ev ed lg (mt ++ (D7, o7) :: r)) cb.1 ∧ cb.1.er = er)
  (c₀ := (⟨q, i, er, kk, tn, tm, nq, ni, nl + 1, qs, is, ls.concat (.ref D7)⟩, started ⟨now, num, ds, es, log⟩ nm)) (nn := na) ?hl DA rfl F9 ?N ?hp ?turn ?done
 case hl =>
  rcases List.mem_append.mp hal with h | h
  ·exact List.mem_append_left _ h
  ·exact List.mem_append_right _ (.tail _ h)
 case N =>
  exact fun p hp => N9 p (by revert p hp; dsimp only [List.cons_append, List.nil_append]; kqd_sub)
 case hp =>
  refine ⟨.nil, started_B (by simpa [Nat.add_assoc] using wf), ⟨D.mono hsub, D2.mono hsub, hDl⟩, off_nil, ⟨fun z => ?_, fun z => ?_, Z.qi⟩, rfl⟩
  ·rcases (hfx _).mp z with z | z
   ·exact hq7 z
   ·exact Z.q z
  ·rcases (hfx _).mp z with z | z
   ·exact hi7 z
   ·exact Z.i z
 case done =>
  (km_mul c; intro b)
  intro tl u h3 tk3
  (km_mul hA; km_mul hB; km_mul hR; km_mul hO; km_mul hZ; intro her)
  intro F3 N3
  f_tup
  clear F9 N9
  dsimp only [List.cons_append, List.nil_append] at N3
  f_tup
  k_steps
  rename News _ _ _ _ => N4
  f_tup
  (refine arr ?_ (out tl c hO hZ); km_mul ho1; intro ho2)
  refine hret h₀ _ _ _ _ KtsTurn.refl (by assumption) (fun p hp => N4 p ?_) B X T DK ⟨_, tl ++ [(D7, o7)], c, b, rfl, hA, hB.less (by w_how), hR.mono ((by first | kqd_sub | (intro p hp; simpa using hp))), ho1, ho2, her, rfl⟩
  revert p hp
  dsimp only [evL, List.cons_append, List.nil_append]
  kqd_sub
 case turn =>
  intro pre
  (km_mul k1; km_mul w1; intro x1)
  intro post v
  (km_mul c; intro b)
  intro tl h9 tk9 own hds hv
  (km_mul hA; km_mul hB; km_mul hR; km_mul hO; km_mul hZ; intro her)
  intro hown F8 N8
  f_tup
  clear F9 N9
  f_tup
  (refine arr ?_ (tD_inv hv); km_mul z; km_mul cz; km_mul u1; km_mul u2; km_mul u3; k_extra "st"; k_extra "sr"; intro hzz)
  have hz3 : (z, tupO [.int k1 u1, .int w1 u2, .str x1 u3] cz) ∈ (own ++ mt) ++ (tl ++ (D7, o7) :: r) := List.mem_append_right _ (List.mem_append_right _ (.tail _ hzz))
  have N7 : News g9 L9 h9 (evL w.params ev ed lg c b ((own ++ mt) ++ (tl ++ (D7, o7) :: r))) := fun p hp => N8 p (by revert p hp; dsimp only [evL, List.cons_append, List.nil_append]; kqd_sub)
  clear N8
  k_with "call ref" => ((fail_if_success (fail_if_success (have h9 := in_D6))); ((refine Stop.out ?_)))
  k_with "exec Raise some none" => ((fail_if_success (fail_if_success (have h9 := in_D6))); ((refine raise_own rfl ?_)))
  f_tup
  k_steps
  ·refine Stop.mk ?_
   f_tup
   rename Fr _ _ _ _ => F9
   rename News _ _ _ _ => N9
   refine Does.use (by k_asm) F9 (by k_asm) (by k_asm) N9 rfl raised_does (by ktr_room) (by ktr_units) ?_
   clear F9 N9
   intro v9 h8 tk8 news9 F9 N9
   (km_mul e; km_mul dx; km_mul oe; km_mul od; km_mul mA; k_extra "st"; k_extra "sr"; k_extra "st"; k_extra "sr"; km_mul hb; km_mul hm; intro hdx)
   f_tup
   f_tup
   (refine arr ?_ (hb.fld); km_mul vs; km_mul hf; intro hf1)
   (try (with_reducible refine unq (by assumption) ?_))
   refine ⟨e, oe, vs, rfl, X'.keeps F9.keep, (N9 _ (.head _)).1, hb.cls, hf, hf1, ?_⟩
   (try (with_reducible first | refine unq (by assumption) ?_ | refine unw (by assumption) ?_))
   refine leave_born B' F9 N9 hb rfl ?_
   intro g2 h2 T2 oe2 oT2 t1 F2 K2 N2 fly
   f_tup
   (refine arr ?_ (up_frame B FG' t1 F2 N2); km_mul h₀'; km_mul v1; km_mul v2; km_mul v3; intro v4)
   f_tup
   (refine arr ?_ (out tl c hO hZ); km_mul ho1; intro ho2)
   have hin : ∀ p ∈ evL w.params ev ed lg c b (mt ++ ((tl ++ [(D7, o7)]) ++ r)), p ∈ evL w.params ev ed lg c b ((own ++ mt) ++ (tl ++ (D7, o7) :: r)) := by
    dsimp only [evL, List.cons_append, List.nil_append]
    kqd_sub
   have hk3 : k1 = 3 := by assumption
   subst hk3
   refine hexc h₀' e h2 _ _ v1 v2 (fun p hp => v3 p ?_) v4 (XB.keeps v4.stays) (TB.keeps v4.stays) (DK.turn v1) ⟨tl ++ [(D7, o7)], c, b, w1, x1, mA, T2, dx, oe2, oT2, od, by rw [hds]; exact hA.app .stop, hB.less (by w_how), hR.mono ((by first | kqd_sub | (intro p hp; simpa using hp))), ho1, ho2, her, hm, fly.sub hin, rfl⟩
   rcases List.mem_cons.mp hp with rfl | hp
   ·exact .head _
   rcases List.mem_cons.mp hp with rfl | hp
   ·exact .tail _ (.head _)
   rcases List.mem_cons.mp hp with rfl | hp
   ·exact .tail _ (.tail _ (.head _))
   ·exact .tail _ (.tail _ (.tail _ (hin p hp)))
  ·refine Stop.mk ?_
   f_tup
   rename Fr _ _ _ _ => F9
   rename News _ _ _ _ => N9
   have hlen : pre.length + post.length + 1 = acts.length := by rw [hds]; simp; w_how
   have hown1 : ∀ y ∈ fx ev ed lg (tl ++ (mt ++ (D7, o7) :: r)), ∀ p ∈ own, p.1 ≠ y := fun y hy p hp => by
    simp only [fx, List.mem_cons, List.mem_map] at hy
    rcases hy with rfl | rfl | rfl | ⟨q1, hq1, rfl⟩
    ·exact hown _ (.head _) p hp
    ·exact hown _ (.tail _ (.head _)) p hp
    ·exact hown _ (.tail _ (.tail _ (.tail _ (.tail _ (.head _))))) p hp
    ·exact hown _ (.tail _ (.tail _ (.tail _ (.tail _ (.tail _ hq1))))) p hp
   have fxs : ∀ y ∈ fx ev ed lg ((own ++ mt) ++ (tl ++ (D7, o7) :: r)), y ∈ own.map (·.1) ∨ y ∈ tl.map (·.1) ++ fx ev ed lg (mt ++ (D7, o7) :: r) := fun y hy => fx_split hy
   have S3 : Fix ev ed lg ((own ++ mt) ++ (tl ++ (D7, o7) :: r)) := by
    have S4 := S2.add hO
    have S5 : Fix ev ed lg (own ++ (tl ++ (mt ++ (D7, o7) :: r))) := S4.add fun p hp hz => hown1 _ hz p hp rfl
    exact S5.sub fun p hp => List.mem_map_of_mem ((by kqd_sub : ∀ q ∈ (own ++ mt) ++ (tl ++ (D7, o7) :: r), q ∈ own ++ (tl ++ (mt ++ (D7, o7) :: r))) p hp)
   have Z3 : Loose (fx ev ed lg ((own ++ mt) ++ (tl ++ (D7, o7) :: r))) c := ⟨fun hz => by
    rcases fxs _ hz with h | h
    ·f_tup
     (refine arr ?_ (List.mem_map.mp h); km_mul p; km_mul hp; intro e)
     exact hown _ (.tail _ (.tail _ (.head _))) p hp e
    ·exact hZ.q h, fun hz => by
    rcases fxs _ hz with h | h
    ·f_tup
     (refine arr ?_ (List.mem_map.mp h); km_mul p; km_mul hp; intro e)
     exact hown _ (.tail _ (.tail _ (.tail _ (.head _)))) p hp e
    ·exact hZ.i h, hZ.qi⟩
   refine Does.use (by k_asm) F9 (by k_asm) (by k_asm) N9 rfl (law_done2 (n := acts.length - (pre.length + 1) + n + 1) S3 Z3 hR (hB.less (by w_how)) hz3) (by ktr_room) (by ktr_units) ?_
   clear F9 N9
   intro v9 h8 tk8 news9 F9 N9
   (km_mul add; km_mul c2; km_mul b2; k_extra "st"; k_extra "sr"; km_mul hD; km_mul hB2; km_mul hR2; km_mul hO2; km_mul hZ2; km_mul her2; k_extra "sr")
   f_tup
   f_tup
   k_steps
   rename Fr _ _ _ _ => F6
   rename News _ _ _ _ => N6
   refine UPost.next (c2, b2) add F6 N6 (fun y hy => by simp only [if_neg hy]) ?sub ?hn ⟨hA.app (.step (by assumption) hD .nil), by simpa using hB2, hR2.mono ((by first | kqd_sub | (intro p hp; simpa using hp))), (hO2.sub ?_).app hO, hZ2.sub ?_, her2.trans her⟩
   case sub =>
    dsimp only [evL, List.cons_append, List.nil_append]
    kqd_sub
   case hn =>
    intro p hp q1 hq1
    have hfq : q1.1 ∈ fx ev ed lg ((own ++ mt) ++ (tl ++ (D7, o7) :: r)) := fx_own hq1
    dsimp only [evL] at hp
    simp only [List.cons_append, List.nil_append, List.mem_cons] at hp
    rcases hp with rfl | rfl | rfl | rfl | rfl | hp
    ·exact hown _ (.head _) q1 hq1
    ·exact hown _ (.tail _ (.head _)) q1 hq1
    ·exact fun (e : q1.1 = c2.q) => hZ2.q (List.mem_append_right _ (e ▸ hfq))
    ·exact fun (e : q1.1 = c2.i) => hZ2.i (List.mem_append_right _ (e ▸ hfq))
    ·exact hown _ (.tail _ (.tail _ (.tail _ (.tail _ (.head _))))) q1 hq1
    ·exact fun e => hO2 p hp (by rw [← e]; exact hfq)
   ·exact fun y hy => fx_mono (by kqd_sub) hy
   ·exact fun y hy => fx_back hy
 ) ?_
 intro q f
 simpa using f (default : (by exact Fin 1))

theorem ok9 : ∀ y, P9 y := Classical.choose_spec ex9 (by with_unfolding_all exact core9)
end law_command_h
theorem law_command_does {prog : Program} {w : World} {mean : ExcName → Option Value} {mg mb : Str → Option Value} {mt r : Led}
  {ev ed lg ho wd dt al : Addr} {nw ndt na n : Nat} {c : EvC} {a : EvS} {nm : Str} {tw : Tok} {as : List Value} {acts : List (Int × Int × Str)}
  (S : Fix ev ed lg (mt ++ r)) (Z : Loose (fx ev ed lg (mt ++ r)) c) (R : EvRep r c a) (wf : EvB a (acts.length + n + 2)) (hw : (wd, listOf [.str nm tw].toArray nw) ∈ mt ++ r) (hdt : (dt, tupO [.ref ev, .ref lg, .ref al] ndt) ∈ mt ++ r) (hal : (al, listOf as.toArray na) ∈ mt ++ r) (DA : DatAll r as (acts.map tD)) (hac : acts.length < 1000) :
  DoesX prog w mean mg mb 585 [.ref ho, .ref wd, .ref dt] 8 60 (evL w.params ev ed lg c a (mt ++ r))
   (fun v news' => ∃ t add c' b, v = .str "done" t ∧ ActsR acts (started a nm) b none ∧ EvB b n ∧ EvRep (add ++ r) c' b ∧ Off (fx ev ed lg (mt ++ r)) add ∧ Loose (add.map (·.1) ++ fx ev ed lg (mt ++ r)) c' ∧ c'.er = c.er ∧ news' = evL w.params ev ed lg c' b (mt ++ (add ++ r)))
   (fun e news' => ∃ add c' b k x mA T dx oe oT od, ActsR acts (started a nm) b (some (k, x)) ∧ EvB b n ∧ EvRep (add ++ r) c' b ∧ Off (fx ev ed lg (mt ++ r)) add ∧ Loose (add.map (·.1) ++ fx ev ed lg (mt ++ r)) c' ∧ c'.er = c.er ∧
    ExcMap k x mA ∧ Fly mA .none e T dx oe oT od (evL w.params ev ed lg c' b (mt ++ (add ++ r))) ∧ news' = (e, oe) :: (T, oT) :: (dx, od) :: evL w.params ev ed lg c' b (mt ++ (add ++ r))) := by
 obtain ⟨q, i, er, kk, tn, tm, nq, ni, nl, qs, is, ls⟩ := c
 obtain ⟨now, num, ds, es, log⟩ := a
 intros dp un gd cn cs a' ccd cl outer A₀ base h₀ L m s Q E B9 F9 XB9 TB9 D9 N9 k9 hcl9
 subst hcl9
 exact law_command_h.ok9 (prog, w, mean, mg, mb, mt, r, ev, ed, lg, ho, wd, dt, al, nw, ndt, na, n, q, i, er, kk, tn, tm, nq, ni, nl, qs, is, ls, now, num, ds, es, log, nm, tw, as, acts, (dp, un, gd, cn, cs, a', ccd, [], outer, A₀, base, h₀, L, m, s, Q, E)) S Z R wf hw hdt hal DA hac B9 F9 XB9 TB9 D9 N9 k9
end
theorem In_E0.in_E0 : True := trivial
noncomputable section
open In_E0
noncomputable def Thrown (R : Int → Str → Led → Prop) (e : Addr) (news' : Led) : Prop :=
 ∃ k x mA T dx oe oT od l, R k x l ∧ ExcMap k x mA ∧ Fly mA .none e T dx oe oT od l ∧ news' = (e, oe) :: (T, oT) :: (dx, od) :: l
section
variable {prog : Program} {w : World} {mean : ExcName → Option Value} {mg mb : Str → Option Value} {f : Addr} {vs : List Value} {dd uu : Nat} {news : Led} {P : Value → Led → Prop} {PX : Addr → Led → Prop}
theorem DoesX.use {dp un : Nat} {gd : Option (List Code)} {cn : Str} {cs : Scope} {a : Addr} {ccd : Value} {outer : List Env} {A₀ : Around} {base h₀ : Heap} {L : Addr} {m : Str → Option Value} {s : Shared} {Q E : Value → Shared → Prop}
  (B : Below A₀ base outer h₀) (F : Fr h₀ L s.heap m) (XB : (K9 w.params).In base) (TB : Top view9 lse mean mg mb base) (D : KtsDicts (frs outer) h₀) (N : News h₀ L s.heap news) (hk : cs.kind = .function)
  (c : DoesX prog w mean mg mb f vs dd uu news P PX) (h1 : dp + dd < recursionLimit) (h2 : un + uu < cLine)
  (k1 : ∀ h₀' r h' tk' news', KtsTurn (frs outer) h₀ h₀' → Fr h₀' L h' m → News h₀' L h' news' → Below A₀ base outer h₀' → (K9 w.params).In h₀' → Top view9 lse mean mg mb h₀' → KtsDicts (frs outer) h₀' → P r news' → Q r { s with heap := h', toks := tk' })
  (k2 : ∀ h₀' e h' tk' news', KtsTurn (frs outer) h₀ h₀' → Fr h₀' L h' m → News h₀' L h' news' → Below A₀ base outer h₀' → (K9 w.params).In h₀' → Top view9 lse mean mg mb h₀' → KtsDicts (frs outer) h₀' → PX e news' → E (.ref e) { s with heap := h', toks := tk' }) :
  wpAny (model prog w) (ktrTop dp un gd cn cs L a ccd [] outer) (call (.ref f) vs) Q E s := c _ _ _ _ _ _ _ _ _ _ _ _ _ _ _ _ _ B F XB TB D N hk rfl h1 h2 k1 k2
end
section
variable {M : Model} {A A₀ : Around} {E E' : Value → Shared → Prop} {s : Shared} {base h₀ g g2 h : Heap} {outer : List Env} {L L' a a' e : Addr} {m m' : Str → Option Value} {cn cn' : Str} {cs cs' : Scope} {ccd ccd' : Value} {news : Led} {R : Int → Str → Led → Prop}
theorem leave_thrown (B : Below A₀ base outer h₀) (FG : Fr h₀ L g m) (t0 : KtsTurn (frs (envOf cn cs L a ccd :: outer)) g g2) (F : Fr g2 L' s.heap m') (K : Below A base (envOf cn cs L a ccd :: outer) g2) (N : News g2 L' s.heap news) (th : Thrown R e news) (hk : cs'.kind = .function)
  (hexc : ∀ h₀' h' news', KtsTurn (frs outer) h₀ h₀' → Fr h₀' L h' m → News h₀' L h' news' → Below A₀ base outer h₀' → Thrown R e news' → E (.ref e) { s with heap := h' }) :
  wpAny M (A.deeper (envOf cn' cs' L' a' ccd')) (leaving (envOf cn' cs' L' a' ccd') (.ref e)) (fun _ s'' => E (.ref e) s'') E' s := by
 obtain ⟨k, x, mA, T, dx, oe, oT, od, l, hR, hm, fly, rfl⟩ := th
 refine leave_fly K F N fly hk fun g3 h3 T3 oe3 oT3 t1 F3 K3 N3 fly3 => ?_
 obtain ⟨h₀', v1, v2, v3, v4⟩ := up_frame B FG (t0.trans t1) F3 N3
 exact hexc h₀' h3 _ v1 v2 v3 v4 ⟨k, x, mA, T3, dx, oe3, oT3, od, l, hR, hm, fly3, rfl⟩
end
namespace act_h
noncomputable abbrev T9 : Type := Program × World × (ExcName → Option Value) × (Str → Option Value) × (Str → Option Value) × Addr × Addr × Addr × Led × (Value → Led → Prop) × (Int → Str → Led → Prop) × Cx
noncomputable def S9 (prog : Program) (w : World) (mean : ExcName → Option Value) (mg : Str → Option Value) (mb : Str → Option Value) (ho : Addr) (wd : Addr) (dt : Addr) (news : Led) (P : Value → Led → Prop) (R : Int → Str → Led → Prop) (x9 : Cx) : Prop :=
 ∀ (c : DoesX prog w mean mg mb 585 [.ref ho, .ref wd, .ref dt] 8 60 news P (Thrown R)), DoesX.at prog w mean mg mb 417 [.ref ho, .ref wd, .ref 585, .ref dt] 10 70 news P (Thrown R) x9.1 x9.2.1 x9.2.2.1 x9.2.2.2.1 x9.2.2.2.2.1 x9.2.2.2.2.2.1 x9.2.2.2.2.2.2.1 x9.2.2.2.2.2.2.2.2.1 x9.2.2.2.2.2.2.2.2.2.1 x9.2.2.2.2.2.2.2.2.2.2.1 x9.2.2.2.2.2.2.2.2.2.2.2.1 x9.2.2.2.2.2.2.2.2.2.2.2.2.1 x9.2.2.2.2.2.2.2.2.2.2.2.2.2.1 x9.2.2.2.2.2.2.2.2.2.2.2.2.2.2.1 x9.2.2.2.2.2.2.2.2.2.2.2.2.2.2.2.1 x9.2.2.2.2.2.2.2.2.2.2.2.2.2.2.2.2
noncomputable def P9 : T9 → Prop := cur fun prog => cur fun w => cur fun mean => cur fun mg => cur fun mb => cur fun ho => cur fun wd => cur fun dt => cur fun news => cur fun P => cur fun R => fun x9 => S9 prog w mean mg mb ho wd dt news P R x9
theorem ex9 : ∃ x, P9 x → ∀ y, P9 y := drinker P9 (PySem.Challenge.rw_np0139_01.prog, w0, default, default, default, default, default, default, default, (fun _ _ => True), (fun _ _ _ => True), cx0)
@[irreducible] def c9 : T9 := Classical.choose ex9
@[irreducible] def prog := c9.1
@[irreducible] def w := c9.2.1
@[irreducible] def mean := c9.2.2.1
@[irreducible] def mg := c9.2.2.2.1
@[irreducible] def mb := c9.2.2.2.2.1
@[irreducible] def ho := c9.2.2.2.2.2.1
@[irreducible] def wd := c9.2.2.2.2.2.2.1
@[irreducible] def dt := c9.2.2.2.2.2.2.2.1
@[irreducible] def news := c9.2.2.2.2.2.2.2.2.1
@[irreducible] def P := c9.2.2.2.2.2.2.2.2.2.1
@[irreducible] def R := c9.2.2.2.2.2.2.2.2.2.2.1
@[irreducible] def x9 := c9.2.2.2.2.2.2.2.2.2.2.2
abbrev h₀ := x9.2.2.2.2.2.2.2.2.2.2.2.1
abbrev s := x9.2.2.2.2.2.2.2.2.2.2.2.2.2.2.1
theorem core9 : S9 prog w mean mg mb ho wd dt news P R x9 := by
 refine wr_z (by
 intro c B F XB TB DK N hk hdp hu hret hexc
 have X : (K9 w.params).In h₀ := XB.keeps B.stays
 have T : Top view9 lse mean mg mb h₀ := TB.keeps B.stays
 refine wpAny_call ?_
 k_dflt walk_at "enterX"
 k_with "call ref" => ((fail_if_success (fail_if_success (have h9 := in_E0))); ((refine Stop.out ?_)))
 f_tup
 k_steps
 refine Stop.mk ?_
 f_tup
 rename Fr _ _ _ _ => F9
 rename News _ _ _ _ => N9
 refine DoesX.use B' F9 XB TB D' N9 rfl c (by ktr_room) (by ktr_units) ?_ ?_
 ·intro g2 r h2 tk2 news2 t2 F2 N2 K2 X2 T2 D2 hP
  clear F9 N9
  f_tup
  k_steps
  exact hret _ r h2 tk2 news2 (by assumption) (by assumption) (by assumption) (by assumption) (by assumption) (by assumption) (by assumption) hP
 ·intro g2 e h2 tk2 news2 t2 F2 N2 K2 X2 T2 D2 hP
  (try (with_reducible first | refine unq (by assumption) ?_ | refine unw (by assumption) ?_))
  refine leave_thrown (s := { s with heap := h2, toks := tk2 }) B FG' t2 F2 K2 N2 hP rfl ?_
  intro h₀' h' news' v1 v2 v3 v4 v5
  exact hexc h₀' e h' tk2 news' v1 v2 v3 v4 (XB.keeps v4.stays) (TB.keeps v4.stays) (DK.turn v1) v5
 ) ?_
 intro q f
 simpa using f (default : (by exact Fin 1))

theorem ok9 : ∀ y, P9 y := Classical.choose_spec ex9 (by with_unfolding_all exact core9)
end act_h
theorem act_does {prog : Program} {w : World} {mean : ExcName → Option Value} {mg mb : Str → Option Value} {ho wd dt : Addr} {news : Led} {P : Value → Led → Prop} {R : Int → Str → Led → Prop}
  (c : DoesX prog w mean mg mb 585 [.ref ho, .ref wd, .ref dt] 8 60 news P (Thrown R)) : DoesX prog w mean mg mb 417 [.ref ho, .ref wd, .ref 585, .ref dt] 10 70 news P (Thrown R) := by
 intros dp un gd cn cs a' ccd cl outer A₀ base h₀ L m s Q E B9 F9 XB9 TB9 D9 N9 k9 hcl9
 subst hcl9
 exact act_h.ok9 (prog, w, mean, mg, mb, ho, wd, dt, news, P, R, (dp, un, gd, cn, cs, a', ccd, [], outer, A₀, base, h₀, L, m, s, Q, E)) c B9 F9 XB9 TB9 D9 N9 k9
end
theorem In_E1.in_E1 : True := trivial
noncomputable section
open In_E1
theorem DoesX.conseq {prog : Program} {w : World} {mean : ExcName → Option Value} {mg mb : Str → Option Value} {f : Addr} {vs : List Value} {dd uu : Nat} {news news2 : Led} {P P' : Value → Led → Prop} {PX PX' : Addr → Led → Prop}
  (c : DoesX prog w mean mg mb f vs dd uu news P PX) (hn : ∀ p ∈ news, p ∈ news2) (hP : ∀ v l, P v l → ∃ l', (∀ p ∈ l', p ∈ l) ∧ P' v l') (hX : ∀ e l, PX e l → ∃ l', (∀ p ∈ l', p ∈ l) ∧ PX' e l') : DoesX prog w mean mg mb f vs dd uu news2 P' PX' := by
 intros dp un gd cn cs a' ccd cl outer A₀ base h₀ L m s Q E B F XB TB DK N hk hcl hdp hu hret hexc
 refine c dp un gd cn cs a' ccd cl outer A₀ base h₀ L m s Q E B F XB TB DK (fun p hp => N p (hn p hp)) hk hcl hdp hu (fun h₀' r h' tk' l t F' N' B' X' T' D' hp => ?_) (fun h₀' e h' tk' l t F' N' B' X' T' D' hp => ?_)
 ·obtain ⟨l', hs, hp'⟩ := hP r l hp
  exact hret h₀' r h' tk' l' t F' (fun p hp => N' p (hs p hp)) B' X' T' D' hp'
 ·obtain ⟨l', hs, hp'⟩ := hX e l hp
  exact hexc h₀' e h' tk' l' t F' (fun p hp => N' p (hs p hp)) B' X' T' D' hp'
theorem Thrown.conseq {R R' : Int → Str → Led → Prop} (hR : ∀ k x l, R k x l → ∃ l', (∀ p ∈ l', p ∈ l) ∧ R' k x l') : ∀ e l, Thrown R e l → ∃ l', (∀ p ∈ l', p ∈ l) ∧ Thrown R' e l' := by
 rintro e l ⟨k, x, mA, T, dx, oe, oT, od, l0, hr, hm, fly, rfl⟩
 obtain ⟨l', hs, hr'⟩ := hR k x l0 hr
 refine ⟨(e, oe) :: (T, oT) :: (dx, od) :: l', fun p hp => ?_, k, x, mA, T, dx, oe, oT, od, l', hr', hm, fly.sub hs, rfl⟩
 rcases List.mem_cons.mp hp with rfl | hp
 ·exact .head _
 rcases List.mem_cons.mp hp with rfl | hp
 ·exact .tail _ (.head _)
 rcases List.mem_cons.mp hp with rfl | hp
 ·exact .tail _ (.tail _ (.head _))
 ·exact .tail _ (.tail _ (.tail _ (hs p hp)))
theorem my_getStr {prog : Program} {w : World} {A : Around} {E : Value → Shared → Prop} {s : Shared} {h₀ : Heap} {L : Addr} {news : Led} {d : Addr} {o : Obj} {kvs : List (Str × Value)} {k : Str} {u : Tok} {v : Value} {value slice : PySem.Expr} {Q : Value → Shared → Prop} (N : News h₀ L s.heap news) (hp : (d, o) ∈ news) (hd : o.IsDictOf (strKind prog w) kvs) (hl : valueAt kvs k = some v) (h : Q v { s with toks := s.toks + 1 })
  (hs : subscripted slice false (.ref d) (.str k u) = operate [.ref d, .str k u] (getItem (.ref d) (.str k u)) := by with_unfolding_all rfl) (hg : ∀ r, letTemporaryGo value (.ref d) r = pure () := by intros _; with_unfolding_all rfl) :
  wpAny (model prog w) A (subscriptTail value slice (.ref d) (.str k u)) Q E s := kda_item (knd := strKind prog w) N hp hd (strKind_is _ _ _ _) hl h hs hg
structure HoC where
 k : Nat → Tok
 tl : Addr
 il : Addr
 vr : Addr
 cm : Addr
 fi : Addr
 lt : Tok
 et : Tok
 deriving Inhabited
noncomputable abbrev hoD (P : Params) (c : HoC) (depth : Int) (dt : Tok) (spent : Int) (st : Tok) : List DictEntry :=
 [⟨PyData.keyHash P "tools", .str "tools" (c.k 0), .ref c.tl⟩, ⟨PyData.keyHash P "inline", .str "inline" (c.k 1), .ref c.il⟩, ⟨PyData.keyHash P "limit", .str "limit" (c.k 2), .int 40 c.lt⟩,
  ⟨PyData.keyHash P "fuel", .str "fuel" (c.k 3), .none⟩, ⟨PyData.keyHash P "depth", .str "depth" (c.k 4), .int depth dt⟩, ⟨PyData.keyHash P "spent", .str "spent" (c.k 5), .int spent st⟩,
  ⟨PyData.keyHash P "epoch", .str "epoch" (c.k 6), .int 0 c.et⟩, ⟨PyData.keyHash P "frame", .str "frame" (c.k 7), .none⟩, ⟨PyData.keyHash P "coroutine", .str "coroutine" (c.k 8), .none⟩,
  ⟨PyData.keyHash P "vars", .str "vars" (c.k 9), .ref c.vr⟩, ⟨PyData.keyHash P "commands", .str "commands" (c.k 10), .ref c.cm⟩, ⟨PyData.keyHash P "firsts", .str "firsts" (c.k 11), .ref c.fi⟩]
noncomputable abbrev hoL (P : Params) (ho hdd : Addr) (c : HoC) (depth : Int) (dt : Tok) (spent : Int) (st : Tok) (t : Led) : Led := (ho, instObj 534 hdd) :: (hdd, dictOf (hoD P c depth dt spent st) 12) :: t
namespace spend_h
noncomputable abbrev T9 : Type := Program × World × (ExcName → Option Value) × (Str → Option Value) × (Str → Option Value) × Addr × Addr × HoC × Int × Int × Tok × Tok × Led × Cx
noncomputable def S9 (prog : Program) (w : World) (mean : ExcName → Option Value) (mg : Str → Option Value) (mb : Str → Option Value) (ho : Addr) (hdd : Addr) (c : HoC) (depth : Int) (spent : Int) (dt : Tok) (st : Tok) (rest : Led) (x9 : Cx) : Prop :=
 ∀ (o1 : ∀ p ∈ rest, p.1 ≠ hdd) (d1 : ho ≠ hdd), Does.at prog w mean mg mb 319 [.ref ho] 2 20 (hoL w.params ho hdd c depth dt spent st rest) (fun v l => ∃ st', v = .none ∧ l = hoL w.params ho hdd c depth dt (spent + 1) st' rest) x9.1 x9.2.1 x9.2.2.1 x9.2.2.2.1 x9.2.2.2.2.1 x9.2.2.2.2.2.1 x9.2.2.2.2.2.2.1 x9.2.2.2.2.2.2.2.1 x9.2.2.2.2.2.2.2.2.1 x9.2.2.2.2.2.2.2.2.2.1 x9.2.2.2.2.2.2.2.2.2.2.1 x9.2.2.2.2.2.2.2.2.2.2.2.1 x9.2.2.2.2.2.2.2.2.2.2.2.2.1 x9.2.2.2.2.2.2.2.2.2.2.2.2.2.1 x9.2.2.2.2.2.2.2.2.2.2.2.2.2.2.1 x9.2.2.2.2.2.2.2.2.2.2.2.2.2.2.2.1 x9.2.2.2.2.2.2.2.2.2.2.2.2.2.2.2.2
noncomputable def P9 : T9 → Prop := cur fun prog => cur fun w => cur fun mean => cur fun mg => cur fun mb => cur fun ho => cur fun hdd => cur fun c => cur fun depth => cur fun spent => cur fun dt => cur fun st => cur fun rest => fun x9 => S9 prog w mean mg mb ho hdd c depth spent dt st rest x9
theorem ex9 : ∃ x, P9 x → ∀ y, P9 y := drinker P9 (PySem.Challenge.rw_np0139_01.prog, w0, default, default, default, default, default, (⟨fun _ => 0, 0, 0, 0, 0, 0, 0, 0⟩ : HoC), default, default, default, default, default, cx0)
@[irreducible] def c9 : T9 := Classical.choose ex9
@[irreducible] def prog := c9.1
@[irreducible] def w := c9.2.1
@[irreducible] def mean := c9.2.2.1
@[irreducible] def mg := c9.2.2.2.1
@[irreducible] def mb := c9.2.2.2.2.1
@[irreducible] def ho := c9.2.2.2.2.2.1
@[irreducible] def hdd := c9.2.2.2.2.2.2.1
@[irreducible] def c := c9.2.2.2.2.2.2.2.1
@[irreducible] def depth := c9.2.2.2.2.2.2.2.2.1
@[irreducible] def spent := c9.2.2.2.2.2.2.2.2.2.1
@[irreducible] def dt := c9.2.2.2.2.2.2.2.2.2.2.1
@[irreducible] def st := c9.2.2.2.2.2.2.2.2.2.2.2.1
@[irreducible] def rest := c9.2.2.2.2.2.2.2.2.2.2.2.2.1
@[irreducible] def x9 := c9.2.2.2.2.2.2.2.2.2.2.2.2.2
theorem core9 : S9 prog w mean mg mb ho hdd c depth spent dt st rest x9 := by
 refine wr_z (by
 intro o1 d1 B F X T N hk hdp hu hret
 simp only [hoL] at N hret ⊢
 refine wpAny_call ?_
 k_dflt ktr_enter
 f_tup
 k_steps
 exact hret _ _ _ _ (by assumption) (by assumption) ⟨_, rfl, rfl⟩
 ) ?_
 intro q f
 simpa using f (default : (by exact Fin 1))
theorem ok9 : ∀ y, P9 y := Classical.choose_spec ex9 (by with_unfolding_all exact core9)
end spend_h
theorem spend_does {prog : Program} {w : World} {mean : ExcName → Option Value} {mg mb : Str → Option Value} {ho hdd : Addr} {c : HoC} {depth spent : Int} {dt st : Tok} {rest : Led}
  (o1 : ∀ p ∈ rest, p.1 ≠ hdd) (d1 : ho ≠ hdd) :
  Does prog w mean mg mb 319 [.ref ho] 2 20 (hoL w.params ho hdd c depth dt spent st rest) (fun v l => ∃ st', v = .none ∧ l = hoL w.params ho hdd c depth dt (spent + 1) st' rest) := by
 intros dp un gd cn cs a ccd cl outer A₀ base h₀ L m s Q E
 exact spend_h.ok9 (prog, w, mean, mg, mb, ho, hdd, c, depth, spent, dt, st, rest, (dp, un, gd, cn, cs, a, ccd, cl, outer, A₀, base, h₀, L, m, s, Q, E)) o1 d1
namespace begin_h
noncomputable abbrev T9 : Type := Program × World × (ExcName → Option Value) × (Str → Option Value) × (Str → Option Value) × Nat × Nat × Nat × Nat × Nat × Nat × Nat × HoC × Int × Int × Tok × Tok × Tok × Str × Obj × List (Str × Value) × Led × (Tok → Value → Led → Prop) × (Tok → Int → Str → Led → Prop) × Cx
noncomputable def S9 (prog : Program) (w : World) (mean : ExcName → Option Value) (mg : Str → Option Value) (mb : Str → Option Value) (ho : Nat) (hdd : Nat) (wd : Nat) (z : Nat) (zd : Nat) (nw : Nat) (nz : Nat) (c : HoC) (depth : Int) (spent : Int) (dt : Tok) (st : Tok) (tw : Tok) (nm : Str) (ocm : Obj) (kvs : List (Str × Value)) (rest : Led) (P : Tok → Value → Led → Prop) (R : Tok → Int → Str → Led → Prop) (x9 : Cx) : Prop :=
 ∀ (o1 : ∀ p ∈ rest, p.1 ≠ hdd) (d1 : ho ≠ hdd) (hcm : (c.cm, ocm) ∈ rest) (hdm : ocm.IsDictOf (strKind prog w) kvs) (hlo : (c.cm == sysModules) = false) (hv : valueAt kvs nm = some (.ref z)) (hz : (z, tupO [.ref 585, .ref zd] nz) ∈ rest) (hw : (wd, listOf [.str nm tw].toArray nw) ∈ rest) (h : ∀ st', DoesX prog w mean mg mb 585 [.ref ho, .ref wd, .ref zd] 8 60 (hoL w.params ho hdd c depth dt (spent + 1) st' rest) (P st') (Thrown (R st'))), DoesX.at prog w mean mg mb 531 [.ref ho, .ref wd] 12 80 (hoL w.params ho hdd c depth dt spent st rest) (fun v l => ∃ st', P st' v l) (Thrown fun k x l => ∃ st', R st' k x l) x9.1 x9.2.1 x9.2.2.1 x9.2.2.2.1 x9.2.2.2.2.1 x9.2.2.2.2.2.1 x9.2.2.2.2.2.2.1 x9.2.2.2.2.2.2.2.2.1 x9.2.2.2.2.2.2.2.2.2.1 x9.2.2.2.2.2.2.2.2.2.2.1 x9.2.2.2.2.2.2.2.2.2.2.2.1 x9.2.2.2.2.2.2.2.2.2.2.2.2.1 x9.2.2.2.2.2.2.2.2.2.2.2.2.2.1 x9.2.2.2.2.2.2.2.2.2.2.2.2.2.2.1 x9.2.2.2.2.2.2.2.2.2.2.2.2.2.2.2.1 x9.2.2.2.2.2.2.2.2.2.2.2.2.2.2.2.2
noncomputable def P9 : T9 → Prop := cur fun prog => cur fun w => cur fun mean => cur fun mg => cur fun mb => cur fun ho => cur fun hdd => cur fun wd => cur fun z => cur fun zd => cur fun nw => cur fun nz => cur fun c => cur fun depth => cur fun spent => cur fun dt => cur fun st => cur fun tw => cur fun nm => cur fun ocm => cur fun kvs => cur fun rest => cur fun P => cur fun R => fun x9 => S9 prog w mean mg mb ho hdd wd z zd nw nz c depth spent dt st tw nm ocm kvs rest P R x9
theorem ex9 : ∃ x, P9 x → ∀ y, P9 y := drinker P9 (PySem.Challenge.rw_np0139_01.prog, w0, default, default, default, default, default, default, default, default, default, default, (⟨fun _ => 0, 0, 0, 0, 0, 0, 0, 0⟩ : HoC), default, default, default, default, default, default, default, default, default, (fun _ _ _ => True), (fun _ _ _ _ => True), cx0)
@[irreducible] def c9 : T9 := Classical.choose ex9
@[irreducible] def prog := c9.1
@[irreducible] def w := c9.2.1
@[irreducible] def mean := c9.2.2.1
@[irreducible] def mg := c9.2.2.2.1
@[irreducible] def mb := c9.2.2.2.2.1
@[irreducible] def ho := c9.2.2.2.2.2.1
@[irreducible] def hdd := c9.2.2.2.2.2.2.1
@[irreducible] def wd := c9.2.2.2.2.2.2.2.1
@[irreducible] def z := c9.2.2.2.2.2.2.2.2.1
@[irreducible] def zd := c9.2.2.2.2.2.2.2.2.2.1
@[irreducible] def nw := c9.2.2.2.2.2.2.2.2.2.2.1
@[irreducible] def nz := c9.2.2.2.2.2.2.2.2.2.2.2.1
@[irreducible] def c := c9.2.2.2.2.2.2.2.2.2.2.2.2.1
@[irreducible] def depth := c9.2.2.2.2.2.2.2.2.2.2.2.2.2.1
@[irreducible] def spent := c9.2.2.2.2.2.2.2.2.2.2.2.2.2.2.1
@[irreducible] def dt := c9.2.2.2.2.2.2.2.2.2.2.2.2.2.2.2.1
@[irreducible] def st := c9.2.2.2.2.2.2.2.2.2.2.2.2.2.2.2.2.1
@[irreducible] def tw := c9.2.2.2.2.2.2.2.2.2.2.2.2.2.2.2.2.2.1
@[irreducible] def nm := c9.2.2.2.2.2.2.2.2.2.2.2.2.2.2.2.2.2.2.1
@[irreducible] def ocm := c9.2.2.2.2.2.2.2.2.2.2.2.2.2.2.2.2.2.2.2.1
@[irreducible] def kvs := c9.2.2.2.2.2.2.2.2.2.2.2.2.2.2.2.2.2.2.2.2.1
@[irreducible] def rest := c9.2.2.2.2.2.2.2.2.2.2.2.2.2.2.2.2.2.2.2.2.2.1
@[irreducible] def P := c9.2.2.2.2.2.2.2.2.2.2.2.2.2.2.2.2.2.2.2.2.2.2.1
@[irreducible] def R := c9.2.2.2.2.2.2.2.2.2.2.2.2.2.2.2.2.2.2.2.2.2.2.2.1
@[irreducible] def x9 := c9.2.2.2.2.2.2.2.2.2.2.2.2.2.2.2.2.2.2.2.2.2.2.2.2
abbrev h₀ := x9.2.2.2.2.2.2.2.2.2.2.2.1
abbrev s := x9.2.2.2.2.2.2.2.2.2.2.2.2.2.2.1
theorem core9 : S9 prog w mean mg mb ho hdd wd z zd nw nz c depth spent dt st tw nm ocm kvs rest P R x9 := by
 refine wr_z (by
 intro o1 d1 hcm hdm hlo hv hz hw h B F XB TB DK N hk hdp hu hret hexc
 have X : (K9 w.params).In h₀ := XB.keeps B.stays
 have T : Top view9 lse mean mg mb h₀ := TB.keeps B.stays
 simp only [hoL] at N
 refine wpAny_call ?_
 k_dflt walk_at "enterX"
 k_with "call ref" => ((fail_if_success (fail_if_success (have h9 := in_E1))); ((refine Stop.out ?_)))
 k_with "subscriptTail" => ((fail_if_success (fail_if_success (have h9 := in_E1))); ((first | ((with_reducible show wpAny _ _ (subscriptTail _ _ (Value.ref _) (Value.int _ _)) _ _ _); refine' my_item0 (by k_asm) (.tail _ (.tail _ hw)) ?_) | ((with_reducible show wpAny _ _ (subscriptTail _ _ (Value.ref _) (Value.str _ _)) _ _ _); refine' my_getStr (by k_asm) (.tail _ (.tail _ hcm)) hdm hv ?_ (by with_unfolding_all rfl) (by intro _; with_unfolding_all rfl)))))
 k_with "compareOp NotIn str ref" => ((fail_if_success (fail_if_success (have h9 := in_E1))); ((refine' kdg_notin (knd := PySem.strKind _ _) (by k_asm) (.tail _ (.tail _ hcm)) hdm hlo (strKind_is _ _ _ _) true (by rw [hv]; rfl) ?_; (try dsimp only [Bool.not_true]))))
 f_tup
 k_steps
 refine Stop.mk ?_
 f_tup
 rename Fr _ _ _ _ => F9
 rename News _ _ _ _ => N9
 refine Does.use (by k_asm) F9 (by k_asm) (by k_asm) N9 rfl (spend_does o1 d1) (by ktr_room) (by ktr_units) ?_
 clear F9 N9
 intro v9 h9 tk9 news9 F9 N9
 (km_mul st'; k_extra "st"; k_extra "sr"; k_extra "sr")
 f_tup
 f_tup
 k_steps
 refine Stop.mk ?_
 f_tup
 rename Fr _ _ _ _ => F8
 rename News _ _ _ _ => N8
 refine DoesX.use B' F8 XB TB D' N8 rfl (act_does (h st')) (by ktr_room) (by ktr_units) ?_ ?_
 ·intro g2 r h2 tk2 news2 t2 F2 N2 K2 X2 T2 D2 hP
  clear F8 N8
  f_tup
  k_steps
  exact hret _ r h2 tk2 news2 (by assumption) (by assumption) (by assumption) (by assumption) (by assumption) (by assumption) (by assumption) ⟨st', hP⟩
 ·intro g2 e h2 tk2 news2 t2 F2 N2 K2 X2 T2 D2 hP
  f_tup
  (refine arr ?_ (Thrown.conseq (R' := fun k x l => ∃ st', R st' k x l) (fun k x l hr => ⟨l, fun p hp => hp, st', hr⟩) e news2 hP); km_mul l'; km_mul hs; intro hP')
  (try (with_reducible first | refine unq (by assumption) ?_ | refine unw (by assumption) ?_))
  refine leave_thrown (s := { s with heap := h2, toks := tk2 }) B FG' t2 F2 K2 (fun p hp => N2 p (hs p hp)) hP' rfl ?_
  intro h₀' h' news' v1 v2 v3 v4 v5
  exact hexc h₀' e h' tk2 news' v1 v2 v3 v4 (XB.keeps v4.stays) (TB.keeps v4.stays) (DK.turn v1) v5
 ) ?_
 intro q f
 simpa using f (default : (by exact Fin 1))

theorem ok9 : ∀ y, P9 y := Classical.choose_spec ex9 (by with_unfolding_all exact core9)
end begin_h
theorem begin_does {prog : Program} {w : World} {mean : ExcName → Option Value} {mg mb : Str → Option Value} {ho hdd wd z zd nw nz : Nat} {c : HoC} {depth spent : Int} {dt st tw : Tok} {nm : Str} {ocm : Obj} {kvs : List (Str × Value)} {rest : Led} {P : Tok → Value → Led → Prop} {R : Tok → Int → Str → Led → Prop}
  (o1 : ∀ p ∈ rest, p.1 ≠ hdd) (d1 : ho ≠ hdd) (hcm : (c.cm, ocm) ∈ rest) (hdm : ocm.IsDictOf (strKind prog w) kvs) (hlo : (c.cm == sysModules) = false) (hv : valueAt kvs nm = some (.ref z)) (hz : (z, tupO [.ref 585, .ref zd] nz) ∈ rest) (hw : (wd, listOf [.str nm tw].toArray nw) ∈ rest)
  (h : ∀ st', DoesX prog w mean mg mb 585 [.ref ho, .ref wd, .ref zd] 8 60 (hoL w.params ho hdd c depth dt (spent + 1) st' rest) (P st') (Thrown (R st'))) :
  DoesX prog w mean mg mb 531 [.ref ho, .ref wd] 12 80 (hoL w.params ho hdd c depth dt spent st rest) (fun v l => ∃ st', P st' v l) (Thrown fun k x l => ∃ st', R st' k x l) := by
 intros dp un gd cn cs a' ccd cl outer A₀ base h₀ L m s Q E B9 F9 XB9 TB9 D9 N9 k9 hcl9
 subst hcl9
 exact begin_h.ok9 (prog, w, mean, mg, mb, ho, hdd, wd, z, zd, nw, nz, c, depth, spent, dt, st, tw, nm, ocm, kvs, rest, P, R, (dp, un, gd, cn, cs, a', ccd, [], outer, A₀, base, h₀, L, m, s, Q, E)) o1 d1 hcm hdm hlo hv hz hw h B9 F9 XB9 TB9 D9 N9 k9
end
theorem In_E2.in_E2 : True := trivial
noncomputable section
open In_E2
theorem my_truthy1 {prog : Program} {w : World} {A : Around} {E : Value → Shared → Prop} {s : Shared} {h₀ : Heap} {L l : Addr} {news : Led} {v : Value} {n : Nat} {Q : Bool → Shared → Prop} (N : News h₀ L s.heap news) (hm : (l, listOf [v].toArray n) ∈ news) (h : Q true { s with toks := s.toks + 1 + 1 }) :
  wpAny (model prog w) A (truthy (.ref l)) Q E s := wpAny_truthy_list (News.isList N hm) (by show ((1 : Nat) : Int) < _; decide) h
namespace call_h
noncomputable abbrev T9 : Type := Program × World × (ExcName → Option Value) × (Str → Option Value) × (Str → Option Value) × Addr × Addr × Addr × Addr × Tok × Tok × Tok × Str × HoC × Int × Int × Led × (Led → Prop) × (Int → Str → Led → Prop) × Cx
noncomputable def S9 (prog : Program) (w : World) (mean : ExcName → Option Value) (mg : Str → Option Value) (mb : Str → Option Value) (ho : Addr) (wd : Addr) (nw : Addr) (hdd : Addr) (tw : Tok) (dt : Tok) (st : Tok) (nm : Str) (hc : HoC) (depth : Int) (spent : Int) (news : Led) (P : Led → Prop) (R : Int → Str → Led → Prop) (x9 : Cx) : Prop :=
 ∀ (hw : (wd, listOf [.str nm tw].toArray nw) ∈ news) (c : DoesX prog w mean mg mb 531 [.ref ho, .ref wd] 12 80 (hoL w.params ho hdd hc depth dt spent st news) (fun v l => ∃ t, v = .str "done" t ∧ P l) (Thrown R)), DoesX.at prog w mean mg mb 347 [.ref ho, .ref wd] 14 90 (hoL w.params ho hdd hc depth dt spent st news) (fun v l => ∃ t, v = .str "done" t ∧ P l) (Thrown R) x9.1 x9.2.1 x9.2.2.1 x9.2.2.2.1 x9.2.2.2.2.1 x9.2.2.2.2.2.1 x9.2.2.2.2.2.2.1 x9.2.2.2.2.2.2.2.2.1 x9.2.2.2.2.2.2.2.2.2.1 x9.2.2.2.2.2.2.2.2.2.2.1 x9.2.2.2.2.2.2.2.2.2.2.2.1 x9.2.2.2.2.2.2.2.2.2.2.2.2.1 x9.2.2.2.2.2.2.2.2.2.2.2.2.2.1 x9.2.2.2.2.2.2.2.2.2.2.2.2.2.2.1 x9.2.2.2.2.2.2.2.2.2.2.2.2.2.2.2.1 x9.2.2.2.2.2.2.2.2.2.2.2.2.2.2.2.2
noncomputable def P9 : T9 → Prop := cur fun prog => cur fun w => cur fun mean => cur fun mg => cur fun mb => cur fun ho => cur fun wd => cur fun nw => cur fun hdd => cur fun tw => cur fun dt => cur fun st => cur fun nm => cur fun hc => cur fun depth => cur fun spent => cur fun news => cur fun P => cur fun R => fun x9 => S9 prog w mean mg mb ho wd nw hdd tw dt st nm hc depth spent news P R x9
theorem ex9 : ∃ x, P9 x → ∀ y, P9 y := drinker P9 (PySem.Challenge.rw_np0139_01.prog, w0, default, default, default, default, default, default, default, default, default, default, default, (⟨fun _ => 0, 0, 0, 0, 0, 0, 0, 0⟩ : HoC), default, default, default, (fun _ => True), (fun _ _ _ => True), cx0)
@[irreducible] def c9 : T9 := Classical.choose ex9
@[irreducible] def prog := c9.1
@[irreducible] def w := c9.2.1
@[irreducible] def mean := c9.2.2.1
@[irreducible] def mg := c9.2.2.2.1
@[irreducible] def mb := c9.2.2.2.2.1
@[irreducible] def ho := c9.2.2.2.2.2.1
@[irreducible] def wd := c9.2.2.2.2.2.2.1
@[irreducible] def nw := c9.2.2.2.2.2.2.2.1
@[irreducible] def hdd := c9.2.2.2.2.2.2.2.2.1
@[irreducible] def tw := c9.2.2.2.2.2.2.2.2.2.1
@[irreducible] def dt := c9.2.2.2.2.2.2.2.2.2.2.1
@[irreducible] def st := c9.2.2.2.2.2.2.2.2.2.2.2.1
@[irreducible] def nm := c9.2.2.2.2.2.2.2.2.2.2.2.2.1
@[irreducible] def hc := c9.2.2.2.2.2.2.2.2.2.2.2.2.2.1
@[irreducible] def depth := c9.2.2.2.2.2.2.2.2.2.2.2.2.2.2.1
@[irreducible] def spent := c9.2.2.2.2.2.2.2.2.2.2.2.2.2.2.2.1
@[irreducible] def news := c9.2.2.2.2.2.2.2.2.2.2.2.2.2.2.2.2.1
@[irreducible] def P := c9.2.2.2.2.2.2.2.2.2.2.2.2.2.2.2.2.2.1
@[irreducible] def R := c9.2.2.2.2.2.2.2.2.2.2.2.2.2.2.2.2.2.2.1
@[irreducible] def x9 := c9.2.2.2.2.2.2.2.2.2.2.2.2.2.2.2.2.2.2.2
abbrev h₀ := x9.2.2.2.2.2.2.2.2.2.2.2.1
abbrev s := x9.2.2.2.2.2.2.2.2.2.2.2.2.2.2.1
theorem core9 : S9 prog w mean mg mb ho wd nw hdd tw dt st nm hc depth spent news P R x9 := by
 refine wr_z (by
 intro hw c B F XB TB DK N hk hdp hu hret hexc
 have X : (K9 w.params).In h₀ := XB.keeps B.stays
 have T : Top view9 lse mean mg mb h₀ := TB.keeps B.stays
 simp only [hoL] at N
 refine wpAny_call ?_
 k_dflt walk_at "enterX"
 k_with "call ref" => ((fail_if_success (fail_if_success (have h9 := in_E2))); ((refine Stop.out ?_)))
 k_with "truthy ref" => ((fail_if_success (fail_if_success (have h9 := in_E2))); ((refine my_truthy1 (by k_asm) (.tail _ (.tail _ hw)) ?_)))
 f_tup
 k_steps
 refine Stop.mk ?_
 f_tup
 rename Fr _ _ _ _ => F9
 rename News _ _ _ _ => N9
 refine DoesX.use B' F9 XB TB D' N9 rfl c (by ktr_room) (by ktr_units) ?_ ?_
 ·intro g2 r h2 tk2 news2 t2 F2 N2 K2 X2 T2 D2 hP
  f_tup
  (revert hP; km_mul tt; k_extra "st"; k_extra "sr"; intro hP)
  clear F9 N9
  f_tup
  k_steps
  exact hret _ _ _ _ news2 (by assumption) (by assumption) (by assumption) (by assumption) (by assumption) (by assumption) (by assumption) ⟨_, rfl, hP⟩
 ·intro g2 e h2 tk2 news2 t2 F2 N2 K2 X2 T2 D2 hP
  (try (with_reducible first | refine unq (by assumption) ?_ | refine unw (by assumption) ?_))
  refine leave_thrown (s := { s with heap := h2, toks := tk2 }) B FG' t2 F2 K2 N2 hP rfl ?_
  intro h₀' h' news' v1 v2 v3 v4 v5
  exact hexc h₀' e h' tk2 news' v1 v2 v3 v4 (XB.keeps v4.stays) (TB.keeps v4.stays) (DK.turn v1) v5
 ) ?_
 intro q f
 simpa using f (default : (by exact Fin 1))

theorem ok9 : ∀ y, P9 y := Classical.choose_spec ex9 (by with_unfolding_all exact core9)
end call_h
theorem call_does {prog : Program} {w : World} {mean : ExcName → Option Value} {mg mb : Str → Option Value} {ho wd nw hdd : Addr} {tw dt st : Tok} {nm : Str} {hc : HoC} {depth spent : Int} {news : Led} {P : Led → Prop} {R : Int → Str → Led → Prop}
  (hw : (wd, listOf [.str nm tw].toArray nw) ∈ news)
  (c : DoesX prog w mean mg mb 531 [.ref ho, .ref wd] 12 80 (hoL w.params ho hdd hc depth dt spent st news) (fun v l => ∃ t, v = .str "done" t ∧ P l) (Thrown R)) :
  DoesX prog w mean mg mb 347 [.ref ho, .ref wd] 14 90 (hoL w.params ho hdd hc depth dt spent st news) (fun v l => ∃ t, v = .str "done" t ∧ P l) (Thrown R) := by
 intros dp un gd cn cs a' ccd cl outer A₀ base h₀ L m s Q E B9 F9 XB9 TB9 D9 N9 k9 hcl9
 subst hcl9
 exact call_h.ok9 (prog, w, mean, mg, mb, ho, wd, nw, hdd, tw, dt, st, nm, hc, depth, spent, news, P, R, (dp, un, gd, cn, cs, a', ccd, [], outer, A₀, base, h₀, L, m, s, Q, E)) hw c B9 F9 XB9 TB9 D9 N9 k9
end
theorem In_E3.in_E3 : True := trivial
noncomputable section
open In_E3
namespace law_run_h
noncomputable abbrev T9 : Type := Program × World × (ExcName → Option Value) × (Str → Option Value) × (Str → Option Value) × Addr × Addr × Tok × Tok × Tok × Str × HoC × Int × Int × Led × (Led → Prop) × (Int → Str → Led → Prop) × Cx
noncomputable def S9 (prog : Program) (w : World) (mean : ExcName → Option Value) (mg : Str → Option Value) (mb : Str → Option Value) (ho : Addr) (hdd : Addr) (tw : Tok) (dt : Tok) (st : Tok) (nm : Str) (hc : HoC) (depth : Int) (spent : Int) (news : Led) (P : Led → Prop) (R : Int → Str → Led → Prop) (x9 : Cx) : Prop :=
 ∀ (c : ∀ wd nw, (∀ p ∈ hoL w.params ho hdd hc depth dt spent st news, p.1 < wd) → DoesX prog w mean mg mb 347 [.ref ho, .ref wd] 14 90 (hoL w.params ho hdd hc depth dt spent st ((wd, listOf [.str nm tw].toArray nw) :: news)) (fun v l => ∃ t, v = .str "done" t ∧ P l) (Thrown R)), DoesX.at prog w mean mg mb 592 [.ref ho, .str nm tw] 16 100 (hoL w.params ho hdd hc depth dt spent st news) (fun v l => ∃ t, v = .str "done" t ∧ P l) (Thrown R) x9.1 x9.2.1 x9.2.2.1 x9.2.2.2.1 x9.2.2.2.2.1 x9.2.2.2.2.2.1 x9.2.2.2.2.2.2.1 x9.2.2.2.2.2.2.2.2.1 x9.2.2.2.2.2.2.2.2.2.1 x9.2.2.2.2.2.2.2.2.2.2.1 x9.2.2.2.2.2.2.2.2.2.2.2.1 x9.2.2.2.2.2.2.2.2.2.2.2.2.1 x9.2.2.2.2.2.2.2.2.2.2.2.2.2.1 x9.2.2.2.2.2.2.2.2.2.2.2.2.2.2.1 x9.2.2.2.2.2.2.2.2.2.2.2.2.2.2.2.1 x9.2.2.2.2.2.2.2.2.2.2.2.2.2.2.2.2
noncomputable def P9 : T9 → Prop := cur fun prog => cur fun w => cur fun mean => cur fun mg => cur fun mb => cur fun ho => cur fun hdd => cur fun tw => cur fun dt => cur fun st => cur fun nm => cur fun hc => cur fun depth => cur fun spent => cur fun news => cur fun P => cur fun R => fun x9 => S9 prog w mean mg mb ho hdd tw dt st nm hc depth spent news P R x9
theorem ex9 : ∃ x, P9 x → ∀ y, P9 y := drinker P9 (PySem.Challenge.rw_np0139_01.prog, w0, default, default, default, default, default, default, default, default, default, (⟨fun _ => 0, 0, 0, 0, 0, 0, 0, 0⟩ : HoC), default, default, default, (fun _ => True), (fun _ _ _ => True), cx0)
@[irreducible] def c9 : T9 := Classical.choose ex9
@[irreducible] def prog := c9.1
@[irreducible] def w := c9.2.1
@[irreducible] def mean := c9.2.2.1
@[irreducible] def mg := c9.2.2.2.1
@[irreducible] def mb := c9.2.2.2.2.1
@[irreducible] def ho := c9.2.2.2.2.2.1
@[irreducible] def hdd := c9.2.2.2.2.2.2.1
@[irreducible] def tw := c9.2.2.2.2.2.2.2.1
@[irreducible] def dt := c9.2.2.2.2.2.2.2.2.1
@[irreducible] def st := c9.2.2.2.2.2.2.2.2.2.1
@[irreducible] def nm := c9.2.2.2.2.2.2.2.2.2.2.1
@[irreducible] def hc := c9.2.2.2.2.2.2.2.2.2.2.2.1
@[irreducible] def depth := c9.2.2.2.2.2.2.2.2.2.2.2.2.1
@[irreducible] def spent := c9.2.2.2.2.2.2.2.2.2.2.2.2.2.1
@[irreducible] def news := c9.2.2.2.2.2.2.2.2.2.2.2.2.2.2.1
@[irreducible] def P := c9.2.2.2.2.2.2.2.2.2.2.2.2.2.2.2.1
@[irreducible] def R := c9.2.2.2.2.2.2.2.2.2.2.2.2.2.2.2.2.1
@[irreducible] def x9 := c9.2.2.2.2.2.2.2.2.2.2.2.2.2.2.2.2.2
abbrev h₀ := x9.2.2.2.2.2.2.2.2.2.2.2.1
abbrev s := x9.2.2.2.2.2.2.2.2.2.2.2.2.2.2.1
theorem core9 : S9 prog w mean mg mb ho hdd tw dt st nm hc depth spent news P R x9 := by
 refine wr_z (by
 intro c B F XB TB DK N hk hdp hu hret hexc
 have X : (K9 w.params).In h₀ := XB.keeps B.stays
 have T : Top view9 lse mean mg mb h₀ := TB.keeps B.stays
 simp only [hoL] at N
 refine wpAny_call ?_
 k_dflt walk_at "enterX"
 k_with "call ref" => ((fail_if_success (fail_if_success (have h9 := in_E3))); ((refine Stop.out ?_)))
 f_tup
 k_steps
 refine Stop.mk ?_
 f_tup
 rename Fr _ _ _ _ => F9
 rename News _ _ _ _ => N9
 f_tup
 (refine arr ?_ (led1 N9); km_mul wd; km_mul o9_62; k_extra "st"; k_extra "sr"; intro o9_63)
 have N8 : News g' L' _ (hoL w.params ho hdd hc depth dt spent st ((wd, listOf [.str nm tw].toArray 0) :: news)) := fun p hp => N9 p (by revert p hp; dsimp only [hoL]; kqd_sub)
 refine DoesX.use B' F9 XB TB D' N8 rfl (c wd 0 ?lt) (by ktr_room) (by ktr_units) ?_ ?_
 case lt =>
  dsimp only [hoL]
  tb_lt
 ·intro g2 r h2 tk2 news2 t2 F2 N2 K2 X2 T2 D2 hP
  f_tup
  (revert hP; km_mul tt; k_extra "st"; k_extra "sr"; intro hP)
  clear F9 N9 N8
  f_tup
  k_steps
  exact hret _ _ _ _ news2 (by assumption) (by assumption) (by assumption) (by assumption) (by assumption) (by assumption) (by assumption) ⟨_, rfl, hP⟩
 ·intro g2 e h2 tk2 news2 t2 F2 N2 K2 X2 T2 D2 hP
  (try (with_reducible first | refine unq (by assumption) ?_ | refine unw (by assumption) ?_))
  refine leave_thrown (s := { s with heap := h2, toks := tk2 }) B FG' t2 F2 K2 N2 hP rfl ?_
  intro h₀' h' news' v1 v2 v3 v4 v5
  exact hexc h₀' e h' tk2 news' v1 v2 v3 v4 (XB.keeps v4.stays) (TB.keeps v4.stays) (DK.turn v1) v5
 ) ?_
 intro q f
 simpa using f (default : (by exact Fin 1))

theorem ok9 : ∀ y, P9 y := Classical.choose_spec ex9 (by with_unfolding_all exact core9)
end law_run_h
theorem law_run_does {prog : Program} {w : World} {mean : ExcName → Option Value} {mg mb : Str → Option Value} {ho hdd : Addr} {tw dt st : Tok} {nm : Str} {hc : HoC} {depth spent : Int} {news : Led} {P : Led → Prop} {R : Int → Str → Led → Prop}
  (c : ∀ wd nw, (∀ p ∈ hoL w.params ho hdd hc depth dt spent st news, p.1 < wd) → DoesX prog w mean mg mb 347 [.ref ho, .ref wd] 14 90 (hoL w.params ho hdd hc depth dt spent st ((wd, listOf [.str nm tw].toArray nw) :: news)) (fun v l => ∃ t, v = .str "done" t ∧ P l) (Thrown R)) :
  DoesX prog w mean mg mb 592 [.ref ho, .str nm tw] 16 100 (hoL w.params ho hdd hc depth dt spent st news) (fun v l => ∃ t, v = .str "done" t ∧ P l) (Thrown R) := by
 intros dp un gd cn cs a' ccd cl outer A₀ base h₀ L m s Q E B9 F9 XB9 TB9 D9 N9 k9 hcl9
 subst hcl9
 exact law_run_h.ok9 (prog, w, mean, mg, mb, ho, hdd, tw, dt, st, nm, hc, depth, spent, news, P, R, (dp, un, gd, cn, cs, a', ccd, [], outer, A₀, base, h₀, L, m, s, Q, E)) c B9 F9 XB9 TB9 D9 N9 k9
end
theorem In_E4.in_E4 : True := trivial
noncomputable section
open In_E4
namespace tool_h
noncomputable abbrev T9 : Type := Program × World × (ExcName → Option Value) × (Str → Option Value) × (Str → Option Value) × Addr × Addr × Tok × Tok × Tok × HoC × Int × Int × Led × Obj × List (Str × Value) × Addr × Str × Cx
noncomputable def S9 (prog : Program) (w : World) (mean : ExcName → Option Value) (mg : Str → Option Value) (mb : Str → Option Value) (ho : Addr) (hdd : Addr) (t : Tok) (dt : Tok) (st : Tok) (hc : HoC) (depth : Int) (spent : Int) (rest : Led) (otl : Obj) (kvs : List (Str × Value)) (f : Addr) (nm : Str) (x9 : Cx) : Prop :=
 ∀ (htl : (hc.tl, otl) ∈ rest) (hdm : otl.IsDictOf (strKind prog w) kvs) (hlo : (hc.tl == sysModules) = false) (hv : valueAt kvs nm = some (.ref f)), Does.at prog w mean mg mb 312 [.ref ho, .str nm t] 2 20 (hoL w.params ho hdd hc depth dt spent st rest) (fun v l => v = .ref f ∧ l = hoL w.params ho hdd hc depth dt spent st rest) x9.1 x9.2.1 x9.2.2.1 x9.2.2.2.1 x9.2.2.2.2.1 x9.2.2.2.2.2.1 x9.2.2.2.2.2.2.1 x9.2.2.2.2.2.2.2.1 x9.2.2.2.2.2.2.2.2.1 x9.2.2.2.2.2.2.2.2.2.1 x9.2.2.2.2.2.2.2.2.2.2.1 x9.2.2.2.2.2.2.2.2.2.2.2.1 x9.2.2.2.2.2.2.2.2.2.2.2.2.1 x9.2.2.2.2.2.2.2.2.2.2.2.2.2.1 x9.2.2.2.2.2.2.2.2.2.2.2.2.2.2.1 x9.2.2.2.2.2.2.2.2.2.2.2.2.2.2.2.1 x9.2.2.2.2.2.2.2.2.2.2.2.2.2.2.2.2
noncomputable def P9 : T9 → Prop := cur fun prog => cur fun w => cur fun mean => cur fun mg => cur fun mb => cur fun ho => cur fun hdd => cur fun t => cur fun dt => cur fun st => cur fun hc => cur fun depth => cur fun spent => cur fun rest => cur fun otl => cur fun kvs => cur fun f => cur fun nm => fun x9 => S9 prog w mean mg mb ho hdd t dt st hc depth spent rest otl kvs f nm x9
theorem ex9 : ∃ x, P9 x → ∀ y, P9 y := drinker P9 (PySem.Challenge.rw_np0139_01.prog, w0, default, default, default, default, default, default, default, default, (⟨fun _ => 0, 0, 0, 0, 0, 0, 0, 0⟩ : HoC), default, default, default, default, default, default, default, cx0)
@[irreducible] def c9 : T9 := Classical.choose ex9
@[irreducible] def prog := c9.1
@[irreducible] def w := c9.2.1
@[irreducible] def mean := c9.2.2.1
@[irreducible] def mg := c9.2.2.2.1
@[irreducible] def mb := c9.2.2.2.2.1
@[irreducible] def ho := c9.2.2.2.2.2.1
@[irreducible] def hdd := c9.2.2.2.2.2.2.1
@[irreducible] def t := c9.2.2.2.2.2.2.2.1
@[irreducible] def dt := c9.2.2.2.2.2.2.2.2.1
@[irreducible] def st := c9.2.2.2.2.2.2.2.2.2.1
@[irreducible] def hc := c9.2.2.2.2.2.2.2.2.2.2.1
@[irreducible] def depth := c9.2.2.2.2.2.2.2.2.2.2.2.1
@[irreducible] def spent := c9.2.2.2.2.2.2.2.2.2.2.2.2.1
@[irreducible] def rest := c9.2.2.2.2.2.2.2.2.2.2.2.2.2.1
@[irreducible] def otl := c9.2.2.2.2.2.2.2.2.2.2.2.2.2.2.1
@[irreducible] def kvs := c9.2.2.2.2.2.2.2.2.2.2.2.2.2.2.2.1
@[irreducible] def f := c9.2.2.2.2.2.2.2.2.2.2.2.2.2.2.2.2.1
@[irreducible] def nm := c9.2.2.2.2.2.2.2.2.2.2.2.2.2.2.2.2.2.1
@[irreducible] def x9 := c9.2.2.2.2.2.2.2.2.2.2.2.2.2.2.2.2.2.2
theorem core9 : S9 prog w mean mg mb ho hdd t dt st hc depth spent rest otl kvs f nm x9 := by
 refine wr_z (by
 intro htl hdm hlo hv B F X T N hk hdp hu hret
 simp only [hoL] at N hret ⊢
 refine wpAny_call ?_
 k_dflt ktr_enter
 k_with "subscriptTail" => ((fail_if_success (fail_if_success (have h9 := in_E4))); (((with_reducible show wpAny _ _ (subscriptTail _ _ (Value.ref _) (Value.str _ _)) _ _ _); refine' my_getStr (by k_asm) (.tail _ (.tail _ htl)) hdm hv ?_ (by with_unfolding_all rfl) (by intro _; with_unfolding_all rfl))))
 k_with "compareOp NotIn str ref" => ((fail_if_success (fail_if_success (have h9 := in_E4))); ((refine' kdg_notin (knd := PySem.strKind _ _) (by k_asm) (.tail _ (.tail _ htl)) hdm hlo (strKind_is _ _ _ _) true (by rw [hv]; rfl) ?_; (try dsimp only [Bool.not_true]))))
 f_tup
 k_steps
 exact hret _ _ _ _ (by assumption) (by assumption) ⟨rfl, rfl⟩
 ) ?_
 intro q f
 simpa using f (default : (by exact Fin 1))

theorem ok9 : ∀ y, P9 y := Classical.choose_spec ex9 (by with_unfolding_all exact core9)
end tool_h
theorem tool_does {prog : Program} {w : World} {mean : ExcName → Option Value} {mg mb : Str → Option Value} {ho hdd : Addr} {t dt st : Tok} {hc : HoC} {depth spent : Int} {rest : Led} {otl : Obj} {kvs : List (Str × Value)} {f : Addr} {nm : Str}
  (htl : (hc.tl, otl) ∈ rest) (hdm : otl.IsDictOf (strKind prog w) kvs) (hlo : (hc.tl == sysModules) = false) (hv : valueAt kvs nm = some (.ref f)) :
  Does prog w mean mg mb 312 [.ref ho, .str nm t] 2 20 (hoL w.params ho hdd hc depth dt spent st rest) (fun v l => v = .ref f ∧ l = hoL w.params ho hdd hc depth dt spent st rest) := by
 intros dp un gd cn cs a ccd cl outer A₀ base h₀ L m s Q E
 exact tool_h.ok9 (prog, w, mean, mg, mb, ho, hdd, t, dt, st, hc, depth, spent, rest, otl, kvs, f, nm, (dp, un, gd, cn, cs, a, ccd, cl, outer, A₀, base, h₀, L, m, s, Q, E)) htl hdm hlo hv
end
theorem In_E5.in_E5 : True := trivial
noncomputable section
open In_E5
theorem Fly.addr {mA : Str → Option Value} {fl : Value} {e T dx : Addr} {oe oT od : Obj} {l l' : Led} (h : Fly mA fl e T dx oe oT od l) (hs : ∀ p ∈ l', ∃ o, (p.1, o) ∈ l) : Fly mA fl e T dx oe oT od l' := by
 obtain ⟨b1, b2, b3, b4, b5, bn, b6, b7, b8⟩ := h
 refine ⟨b1, b2, b3, b4, b5, bn, fun p hp => ?_, fun p hp => ?_, fun p hp => ?_⟩
 ·rcases List.mem_cons.mp hp with rfl | hp
  ·exact b6 _ (.head _)
  ·obtain ⟨o, ho⟩ := hs p hp
   exact b6 (p.1, o) (.tail _ ho)
 ·rcases List.mem_cons.mp hp with rfl | hp
  ·exact b7 _ (.head _)
  ·obtain ⟨o, ho⟩ := hs p hp
   exact b7 (p.1, o) (.tail _ ho)
 ·obtain ⟨o, ho⟩ := hs p hp
  exact b8 (p.1, o) ho
namespace run_h
noncomputable abbrev T9 : Type := Program × World × (ExcName → Option Value) × (Str → Option Value) × (Str → Option Value) × Addr × Addr × Tok × Tok × Tok × Str × HoC × Int × Led × Obj × List (Str × Value) × (Led → Prop) × (Int → Str → Led → Prop) × Cx
noncomputable def S9 (prog : Program) (w : World) (mean : ExcName → Option Value) (mg : Str → Option Value) (mb : Str → Option Value) (ho : Addr) (hdd : Addr) (tw : Tok) (dt : Tok) (st : Tok) (nm : Str) (hc : HoC) (spent : Int) (rest : Led) (otl : Obj) (kvs : List (Str × Value)) (P : Led → Prop) (R : Int → Str → Led → Prop) (x9 : Cx) : Prop :=
 ∀ (o1 : ∀ p ∈ rest, p.1 ≠ hdd) (d1 : ho ≠ hdd) (htl : (hc.tl, otl) ∈ rest) (hdm : otl.IsDictOf (strKind prog w) kvs) (hlo : (hc.tl == sysModules) = false) (hv : valueAt kvs "run" = some (.ref 592)) (c : ∀ dt', DoesX prog w mean mg mb 592 [.ref ho, .str nm tw] 16 100 (hoL w.params ho hdd hc 1 dt' spent st rest)
   (fun v l => ∃ t, v = .str "done" t ∧ ∃ spent' st' l', l = hoL w.params ho hdd hc 1 dt' spent' st' l' ∧ (∀ p ∈ l', p.1 ≠ hdd) ∧ P l')
   (Thrown fun k x l => ∃ spent' st' l', l = hoL w.params ho hdd hc 1 dt' spent' st' l' ∧ (∀ p ∈ l', p.1 ≠ hdd) ∧ R k x l')), DoesX.at prog w mean mg mb 333 [.ref ho, .str nm tw] 18 120 (hoL w.params ho hdd hc 0 dt spent st rest)
   (fun v l => ∃ t, v = .str "done" t ∧ ∃ spent' st' dt' l', l = hoL w.params ho hdd hc 0 dt' spent' st' l' ∧ (∀ p ∈ l', p.1 ≠ hdd) ∧ P l')
   (Thrown fun k x l => ∃ spent' st' dt' l', l = hoL w.params ho hdd hc 0 dt' spent' st' l' ∧ (∀ p ∈ l', p.1 ≠ hdd) ∧ R k x l') x9.1 x9.2.1 x9.2.2.1 x9.2.2.2.1 x9.2.2.2.2.1 x9.2.2.2.2.2.1 x9.2.2.2.2.2.2.1 x9.2.2.2.2.2.2.2.2.1 x9.2.2.2.2.2.2.2.2.2.1 x9.2.2.2.2.2.2.2.2.2.2.1 x9.2.2.2.2.2.2.2.2.2.2.2.1 x9.2.2.2.2.2.2.2.2.2.2.2.2.1 x9.2.2.2.2.2.2.2.2.2.2.2.2.2.1 x9.2.2.2.2.2.2.2.2.2.2.2.2.2.2.1 x9.2.2.2.2.2.2.2.2.2.2.2.2.2.2.2.1 x9.2.2.2.2.2.2.2.2.2.2.2.2.2.2.2.2
noncomputable def P9 : T9 → Prop := cur fun prog => cur fun w => cur fun mean => cur fun mg => cur fun mb => cur fun ho => cur fun hdd => cur fun tw => cur fun dt => cur fun st => cur fun nm => cur fun hc => cur fun spent => cur fun rest => cur fun otl => cur fun kvs => cur fun P => cur fun R => fun x9 => S9 prog w mean mg mb ho hdd tw dt st nm hc spent rest otl kvs P R x9
theorem ex9 : ∃ x, P9 x → ∀ y, P9 y := drinker P9 (PySem.Challenge.rw_np0139_01.prog, w0, default, default, default, default, default, default, default, default, default, (⟨fun _ => 0, 0, 0, 0, 0, 0, 0, 0⟩ : HoC), default, default, default, default, (fun _ => True), (fun _ _ _ => True), cx0)
@[irreducible] def c9 : T9 := Classical.choose ex9
@[irreducible] def prog := c9.1
@[irreducible] def w := c9.2.1
@[irreducible] def mean := c9.2.2.1
@[irreducible] def mg := c9.2.2.2.1
@[irreducible] def mb := c9.2.2.2.2.1
@[irreducible] def ho := c9.2.2.2.2.2.1
@[irreducible] def hdd := c9.2.2.2.2.2.2.1
@[irreducible] def tw := c9.2.2.2.2.2.2.2.1
@[irreducible] def dt := c9.2.2.2.2.2.2.2.2.1
@[irreducible] def st := c9.2.2.2.2.2.2.2.2.2.1
@[irreducible] def nm := c9.2.2.2.2.2.2.2.2.2.2.1
@[irreducible] def hc := c9.2.2.2.2.2.2.2.2.2.2.2.1
@[irreducible] def spent := c9.2.2.2.2.2.2.2.2.2.2.2.2.1
@[irreducible] def rest := c9.2.2.2.2.2.2.2.2.2.2.2.2.2.1
@[irreducible] def otl := c9.2.2.2.2.2.2.2.2.2.2.2.2.2.2.1
@[irreducible] def kvs := c9.2.2.2.2.2.2.2.2.2.2.2.2.2.2.2.1
@[irreducible] def P := c9.2.2.2.2.2.2.2.2.2.2.2.2.2.2.2.2.1
@[irreducible] def R := c9.2.2.2.2.2.2.2.2.2.2.2.2.2.2.2.2.2.1
@[irreducible] def x9 := c9.2.2.2.2.2.2.2.2.2.2.2.2.2.2.2.2.2.2
abbrev h₀ := x9.2.2.2.2.2.2.2.2.2.2.2.1
theorem core9 : S9 prog w mean mg mb ho hdd tw dt st nm hc spent rest otl kvs P R x9 := by
 refine wr_z (by
 intro o1 d1 htl hdm hlo hv c B F XB TB DK N hk hdp hu hret hexc
 have X : (K9 w.params).In h₀ := XB.keeps B.stays
 have T : Top view9 lse mean mg mb h₀ := TB.keeps B.stays
 simp only [hoL] at N
 refine wpAny_call ?_
 k_dflt walk_at "enterX"
 k_with "call ref" => ((fail_if_success (fail_if_success (have h9 := in_E5))); ((refine Stop.out ?_)))
 k_with "exec Try" => ((fail_if_success (fail_if_success (have h9 := in_E5))); ((refine Stop.out ?_)))
 f_tup
 k_steps
 refine Stop.mk ?_
 f_tup
 rename Fr _ _ _ _ => F9
 rename News _ _ _ _ => N9
 refine Does.use (by k_asm) F9 (by k_asm) (by k_asm) N9 rfl (tool_does htl hdm hlo hv) (by ktr_room) (by ktr_units) ?_
 clear F9 N9
 intro v9 h9 tk9 news9 F9 N9
 (k_extra "st"; k_extra "sr"; k_extra "sr")
 f_tup
 f_tup
 k_steps
 refine Stop.mk ?_
 f_tup
 rename Fr _ _ _ _ => F9
 rename News _ _ _ _ => N9
 refine DoesX.use B' F9 XB TB D' N9 rfl (c _) (by ktr_room) (by ktr_units) ?_ ?_
 ·intro g2 r h2 tk2 news2 t2 F2 N2 K2 X2 T2 D2
  (km_mul tt; k_extra "st"; k_extra "sr"; km_mul sp'; km_mul st'; km_mul l'; k_extra "st"; k_extra "sr"; km_mul ol; intro hP)
  f_tup
  clear F9 N9
  simp only [hoL] at N2
  f_tup
  k_steps
  exact hret _ _ _ _ _ (by assumption) (by assumption) (by assumption) (by assumption) (by assumption) (by assumption) (by assumption) ⟨_, rfl, sp', st', _, l', rfl, ol, hP⟩
 ·intro g2 e h2 tk2 news2 t2 F2 N2 K2 X2 T2 D2
  (km_mul k; km_mul x; km_mul mA; km_mul T0; km_mul dx; km_mul oe; km_mul oT; km_mul od; km_mul l; k_extra "st"; km_mul sp'; km_mul st'; km_mul l'; k_extra "st"; k_extra "sr"; km_mul ol; intro hR; km_mul hm; km_mul fly; k_extra "sr")
  f_tup
  clear F9 N9
  (try (with_reducible first | refine unq (by assumption) ?_ | refine unw (by assumption) ?_))
  refine note_fly K2 F2 N2 fly rfl ?_
  intro g3 h3 T3 oe3 oT3 t3 F3 K3 N3 fly3
  (try (with_reducible refine unq (by assumption) ?_))
  refine ⟨(by intro z; cases z), ?_⟩
  (try (with_reducible first | refine unq (by assumption) ?_ | refine unw (by assumption) ?_))
  refine note_again N3 fly3 ?_
  (try (with_reducible first | refine unq (by assumption) ?_ | refine unw (by assumption) ?_))
  refine set_flight F3 N3 fly3 ?_
  intro h4 oT4 F4 N4 fly4
  simp only [hoL] at N4
  have e1 : hdd ≠ e := fly4.a1 (hdd, _) (by simp only [hoL]; exact .tail _ (.tail _ (.head _)))
  have e2 : hdd ≠ T3 := fly4.a2 (hdd, _) (by simp only [hoL]; exact .tail _ (.tail _ (.head _)))
  have e3 : hdd ≠ dx := fly4.a3 (hdd, _) (by simp only [hoL]; exact .tail _ (.head _))
  clear N2 N3 F2 F3
  have X3 : (K9 w.params).In g3 := XB.keeps K3.stays
  have T4 : Top view9 lse mean mg mb g3 := TB.keeps K3.stays
  f_tup
  k_steps
  try dsimp only
  rename Fr _ _ _ _ => F5
  rename News _ _ _ _ => N5
  have fly5 : ∀ dt9, Fly mA .none e T3 dx oe3 oT4 od (hoL w.params ho hdd hc 0 dt9 sp' st' l') := fun dt9 => fly4.addr (fun p hp => by
   rcases List.mem_cons.mp hp with rfl | hp
   ·exact ⟨_, .head _⟩
   rcases List.mem_cons.mp hp with rfl | hp
   ·exact ⟨_, .tail _ (.head _)⟩
   ·exact ⟨p.2, .tail _ (.tail _ hp)⟩)
  (try (with_reducible first | refine unq (by assumption) ?_ | refine unw (by assumption) ?_))
  refine pass_on F5 N5 (fly5 _) ?_
  intro h6 oT6 F6 N6 fly6
  (try (with_reducible first | refine unq (by assumption) ?_ | refine unw (by assumption) ?_))
  refine leave_held F6 N6 fly6 ?_
  intro h7 oT7 F7 N7 fly7
  f_tup
  (refine arr ?_ (up_frame B FG' (t2.trans t3) F7 N7); km_mul h₀'; km_mul v1; km_mul v2; km_mul v3; intro v4)
  exact hexc h₀' e h7 _ _ v1 v2 v3 v4 (XB.keeps v4.stays) (TB.keeps v4.stays) (DK.turn v1) ⟨k, x, mA, T3, dx, oe3, oT7, od, _, ⟨sp', st', _, l', rfl, ol, hR⟩, hm, fly7, rfl⟩
 ) ?_
 intro q f
 simpa using f (default : (by exact Fin 1))

theorem ok9 : ∀ y, P9 y := Classical.choose_spec ex9 (by with_unfolding_all exact core9)
end run_h
theorem run_does {prog : Program} {w : World} {mean : ExcName → Option Value} {mg mb : Str → Option Value} {ho hdd : Addr} {tw dt st : Tok} {nm : Str} {hc : HoC} {spent : Int} {rest : Led} {otl : Obj} {kvs : List (Str × Value)} {P : Led → Prop} {R : Int → Str → Led → Prop}
  (o1 : ∀ p ∈ rest, p.1 ≠ hdd) (d1 : ho ≠ hdd) (htl : (hc.tl, otl) ∈ rest) (hdm : otl.IsDictOf (strKind prog w) kvs) (hlo : (hc.tl == sysModules) = false) (hv : valueAt kvs "run" = some (.ref 592))
  (c : ∀ dt', DoesX prog w mean mg mb 592 [.ref ho, .str nm tw] 16 100 (hoL w.params ho hdd hc 1 dt' spent st rest)
   (fun v l => ∃ t, v = .str "done" t ∧ ∃ spent' st' l', l = hoL w.params ho hdd hc 1 dt' spent' st' l' ∧ (∀ p ∈ l', p.1 ≠ hdd) ∧ P l')
   (Thrown fun k x l => ∃ spent' st' l', l = hoL w.params ho hdd hc 1 dt' spent' st' l' ∧ (∀ p ∈ l', p.1 ≠ hdd) ∧ R k x l')) :
  DoesX prog w mean mg mb 333 [.ref ho, .str nm tw] 18 120 (hoL w.params ho hdd hc 0 dt spent st rest)
   (fun v l => ∃ t, v = .str "done" t ∧ ∃ spent' st' dt' l', l = hoL w.params ho hdd hc 0 dt' spent' st' l' ∧ (∀ p ∈ l', p.1 ≠ hdd) ∧ P l')
   (Thrown fun k x l => ∃ spent' st' dt' l', l = hoL w.params ho hdd hc 0 dt' spent' st' l' ∧ (∀ p ∈ l', p.1 ≠ hdd) ∧ R k x l') := by
 intros dp un gd cn cs a' ccd cl outer A₀ base h₀ L m s Q E B9 F9 XB9 TB9 D9 N9 k9 hcl9
 subst hcl9
 exact run_h.ok9 (prog, w, mean, mg, mb, ho, hdd, tw, dt, st, nm, hc, spent, rest, otl, kvs, P, R, (dp, un, gd, cn, cs, a', ccd, [], outer, A₀, base, h₀, L, m, s, Q, E)) o1 d1 htl hdm hlo hv c B9 F9 XB9 TB9 D9 N9 k9
end
theorem In_E6.in_E6 : True := trivial
noncomputable section
open In_E6
namespace run_global_h
noncomputable abbrev T9 : Type := Program × World × (ExcName → Option Value) × (Str → Option Value) × (Str → Option Value) × Addr × Addr × Tok × Tok × Tok × Str × HoC × Int × Int × Led × (Led → Prop) × (Int → Str → Led → Prop) × Cx
noncomputable def S9 (prog : Program) (w : World) (mean : ExcName → Option Value) (mg : Str → Option Value) (mb : Str → Option Value) (ho : Addr) (hdd : Addr) (tw : Tok) (dt : Tok) (st : Tok) (nm : Str) (hc : HoC) (depth : Int) (spent : Int) (rest : Led) (P : Led → Prop) (R : Int → Str → Led → Prop) (x9 : Cx) : Prop :=
 ∀ (c : DoesX prog w mean mg mb 333 [.ref ho, .str nm tw] 18 120 (hoL w.params ho hdd hc depth dt spent st rest) (fun v l => ∃ t, v = .str "done" t ∧ P l) (Thrown R)), DoesX.at prog w mean mg mb 340 [.ref ho, .str nm tw] 20 130 (hoL w.params ho hdd hc depth dt spent st rest) (fun v l => ∃ t, v = .str "done" t ∧ P l) (Thrown R) x9.1 x9.2.1 x9.2.2.1 x9.2.2.2.1 x9.2.2.2.2.1 x9.2.2.2.2.2.1 x9.2.2.2.2.2.2.1 x9.2.2.2.2.2.2.2.2.1 x9.2.2.2.2.2.2.2.2.2.1 x9.2.2.2.2.2.2.2.2.2.2.1 x9.2.2.2.2.2.2.2.2.2.2.2.1 x9.2.2.2.2.2.2.2.2.2.2.2.2.1 x9.2.2.2.2.2.2.2.2.2.2.2.2.2.1 x9.2.2.2.2.2.2.2.2.2.2.2.2.2.2.1 x9.2.2.2.2.2.2.2.2.2.2.2.2.2.2.2.1 x9.2.2.2.2.2.2.2.2.2.2.2.2.2.2.2.2
noncomputable def P9 : T9 → Prop := cur fun prog => cur fun w => cur fun mean => cur fun mg => cur fun mb => cur fun ho => cur fun hdd => cur fun tw => cur fun dt => cur fun st => cur fun nm => cur fun hc => cur fun depth => cur fun spent => cur fun rest => cur fun P => cur fun R => fun x9 => S9 prog w mean mg mb ho hdd tw dt st nm hc depth spent rest P R x9
theorem ex9 : ∃ x, P9 x → ∀ y, P9 y := drinker P9 (PySem.Challenge.rw_np0139_01.prog, w0, default, default, default, default, default, default, default, default, default, (⟨fun _ => 0, 0, 0, 0, 0, 0, 0, 0⟩ : HoC), default, default, default, (fun _ => True), (fun _ _ _ => True), cx0)
@[irreducible] def c9 : T9 := Classical.choose ex9
@[irreducible] def prog := c9.1
@[irreducible] def w := c9.2.1
@[irreducible] def mean := c9.2.2.1
@[irreducible] def mg := c9.2.2.2.1
@[irreducible] def mb := c9.2.2.2.2.1
@[irreducible] def ho := c9.2.2.2.2.2.1
@[irreducible] def hdd := c9.2.2.2.2.2.2.1
@[irreducible] def tw := c9.2.2.2.2.2.2.2.1
@[irreducible] def dt := c9.2.2.2.2.2.2.2.2.1
@[irreducible] def st := c9.2.2.2.2.2.2.2.2.2.1
@[irreducible] def nm := c9.2.2.2.2.2.2.2.2.2.2.1
@[irreducible] def hc := c9.2.2.2.2.2.2.2.2.2.2.2.1
@[irreducible] def depth := c9.2.2.2.2.2.2.2.2.2.2.2.2.1
@[irreducible] def spent := c9.2.2.2.2.2.2.2.2.2.2.2.2.2.1
@[irreducible] def rest := c9.2.2.2.2.2.2.2.2.2.2.2.2.2.2.1
@[irreducible] def P := c9.2.2.2.2.2.2.2.2.2.2.2.2.2.2.2.1
@[irreducible] def R := c9.2.2.2.2.2.2.2.2.2.2.2.2.2.2.2.2.1
@[irreducible] def x9 := c9.2.2.2.2.2.2.2.2.2.2.2.2.2.2.2.2.2
abbrev h₀ := x9.2.2.2.2.2.2.2.2.2.2.2.1
abbrev s := x9.2.2.2.2.2.2.2.2.2.2.2.2.2.2.1
theorem core9 : S9 prog w mean mg mb ho hdd tw dt st nm hc depth spent rest P R x9 := by
 refine wr_z (by
 intro c B F XB TB DK N hk hdp hu hret hexc
 have X : (K9 w.params).In h₀ := XB.keeps B.stays
 have T : Top view9 lse mean mg mb h₀ := TB.keeps B.stays
 simp only [hoL] at N
 refine wpAny_call ?_
 k_dflt walk_at "enterX"
 k_with "call ref" => ((fail_if_success (fail_if_success (have h9 := in_E6))); ((refine Stop.out ?_)))
 f_tup
 k_steps
 refine Stop.mk ?_
 f_tup
 rename Fr _ _ _ _ => F9
 rename News _ _ _ _ => N9
 refine DoesX.use B' F9 XB TB D' N9 rfl c (by ktr_room) (by ktr_units) ?_ ?_
 ·intro g2 r h2 tk2 news2 t2 F2 N2 K2 X2 T2 D2
  (km_mul tt; k_extra "st"; k_extra "sr"; intro hP)
  f_tup
  clear F9 N9
  f_tup
  k_steps
  exact hret _ _ _ _ news2 (by assumption) (by assumption) (by assumption) (by assumption) (by assumption) (by assumption) (by assumption) ⟨_, rfl, hP⟩
 ·intro g2 e h2 tk2 news2 t2 F2 N2 K2 X2 T2 D2 hP
  (try (with_reducible first | refine unq (by assumption) ?_ | refine unw (by assumption) ?_))
  refine leave_thrown (s := { s with heap := h2, toks := tk2 }) B FG' t2 F2 K2 N2 hP rfl ?_
  intro h₀' h' news' v1 v2 v3 v4 v5
  exact hexc h₀' e h' tk2 news' v1 v2 v3 v4 (XB.keeps v4.stays) (TB.keeps v4.stays) (DK.turn v1) v5
 ) ?_
 intro q f
 simpa using f (default : (by exact Fin 1))

theorem ok9 : ∀ y, P9 y := Classical.choose_spec ex9 (by with_unfolding_all exact core9)
end run_global_h
theorem run_global_does {prog : Program} {w : World} {mean : ExcName → Option Value} {mg mb : Str → Option Value} {ho hdd : Addr} {tw dt st : Tok} {nm : Str} {hc : HoC} {depth spent : Int} {rest : Led} {P : Led → Prop} {R : Int → Str → Led → Prop}
  (c : DoesX prog w mean mg mb 333 [.ref ho, .str nm tw] 18 120 (hoL w.params ho hdd hc depth dt spent st rest) (fun v l => ∃ t, v = .str "done" t ∧ P l) (Thrown R)) :
  DoesX prog w mean mg mb 340 [.ref ho, .str nm tw] 20 130 (hoL w.params ho hdd hc depth dt spent st rest) (fun v l => ∃ t, v = .str "done" t ∧ P l) (Thrown R) := by
 intros dp un gd cn cs a' ccd cl outer A₀ base h₀ L m s Q E B9 F9 XB9 TB9 D9 N9 k9 hcl9
 subst hcl9
 exact run_global_h.ok9 (prog, w, mean, mg, mb, ho, hdd, tw, dt, st, nm, hc, depth, spent, rest, P, R, (dp, un, gd, cn, cs, a', ccd, [], outer, A₀, base, h₀, L, m, s, Q, E)) c B9 F9 XB9 TB9 D9 N9 k9
end
theorem In_E7.in_E7 : True := trivial
noncomputable section
open In_E7
noncomputable abbrev erL (P : Params) (ev ed : Addr) (c : EvC) (now num : Int) (es : List Value) (ne : Nat) (t : Led) : Led := (ev, instObj 265 ed) :: (ed, dictOf (evD P c.k now c.tn c.q c.i c.er num c.tm) 5) :: (c.er, listOf es.toArray ne) :: t
theorem DoesM.use {prog : Program} {w : World} {mean : ExcName → Option Value} {mg mb : Str → Option Value} {f : Addr} {vs : List Value} {dd uu : Nat} {news : Led} {P : Value → Led → Prop} {hv : Option Value} {dp un : Nat} {gd : Option (List Code)} {cn : Str} {cs : Scope} {a : Addr} {ccd : Value} {cl : List (Str × Addr)} {outer : List Env} {A₀ : Around} {base h₀ : Heap} {L : Addr} {m : Str → Option Value} {s : Shared} {Q E : Value → Shared → Prop}
  (B : Below A₀ base outer h₀) (F : Fr h₀ L s.heap m) (X : (K9 w.params).In h₀) (T : Top view9 lse mean mg mb h₀) (N : News h₀ L s.heap news) (hk : cs.kind = .function)
  (c : DoesM prog w mean mg mb f vs dd uu news P) (h1 : dp + dd < recursionLimit) (h2 : un + uu < cLine)
  (k : ∀ r h' tk' news', Fr h₀ L h' m → News h₀ L h' news' → P r news' → Q r { s with heap := h', toks := tk' }) :
  wpAny (model prog w) ((ktrTop dp un gd cn cs L a ccd cl outer).mark hv) (call (.ref f) vs) Q E s := c _ _ _ _ _ _ _ _ _ _ _ _ _ _ _ _ _ _ B F X T N hk h1 h2 k
namespace run_event_h
noncomputable abbrev T9 : Type := Program × World × (ExcName → Option Value) × (Str → Option Value) × (Str → Option Value) × Addr × Addr × Addr × Addr × Tok × Tok × Tok × Str × HoC × Int × Int × Led × (Led → Prop) × (Int → Str → EvC → Int → Int → List Value → Nat → Led → Prop) × Cx
noncomputable def S9 (prog : Program) (w : World) (mean : ExcName → Option Value) (mg : Str → Option Value) (mb : Str → Option Value) (ev : Addr) (ed : Addr) (ho : Addr) (hdd : Addr) (tw : Tok) (dt : Tok) (st : Tok) (nm : Str) (hc : HoC) (depth : Int) (spent : Int) (rest : Led) (P : Led → Prop) (R : Int → Str → EvC → Int → Int → List Value → Nat → Led → Prop) (x9 : Cx) : Prop :=
 ∀ (c : DoesX prog w mean mg mb 340 [.ref ho, .str nm tw] 20 130 (hoL w.params ho hdd hc depth dt spent st rest) (fun v l => ∃ t, v = .str "done" t ∧ P l)
   (Thrown fun k x l => ∃ c now num es ne l', l = erL w.params ev ed c now num es ne l' ∧ ev ≠ ed ∧ ev ≠ c.er ∧ ed ≠ c.er ∧ (∀ p ∈ l', p.1 ≠ c.er) ∧ es.length < 1000000 ∧ 0 ≤ k ∧ k < 1000 ∧ R k x c now num es ne l')), DoesX.at prog w mean mg mb 181 [.ref ev, .ref ho, .str nm tw] 22 140 (hoL w.params ho hdd hc depth dt spent st rest)
   (fun v l => v = .none ∧ (P l ∨ ∃ k x c now num es ne l' t, R k x c now num es ne l' ∧ l = erL w.params ev ed c now num (es.concat (.str (toldS k x) t)) (ne + 1) l')) (fun _ _ => False) x9.1 x9.2.1 x9.2.2.1 x9.2.2.2.1 x9.2.2.2.2.1 x9.2.2.2.2.2.1 x9.2.2.2.2.2.2.1 x9.2.2.2.2.2.2.2.2.1 x9.2.2.2.2.2.2.2.2.2.1 x9.2.2.2.2.2.2.2.2.2.2.1 x9.2.2.2.2.2.2.2.2.2.2.2.1 x9.2.2.2.2.2.2.2.2.2.2.2.2.1 x9.2.2.2.2.2.2.2.2.2.2.2.2.2.1 x9.2.2.2.2.2.2.2.2.2.2.2.2.2.2.1 x9.2.2.2.2.2.2.2.2.2.2.2.2.2.2.2.1 x9.2.2.2.2.2.2.2.2.2.2.2.2.2.2.2.2
noncomputable def P9 : T9 → Prop := cur fun prog => cur fun w => cur fun mean => cur fun mg => cur fun mb => cur fun ev => cur fun ed => cur fun ho => cur fun hdd => cur fun tw => cur fun dt => cur fun st => cur fun nm => cur fun hc => cur fun depth => cur fun spent => cur fun rest => cur fun P => cur fun R => fun x9 => S9 prog w mean mg mb ev ed ho hdd tw dt st nm hc depth spent rest P R x9
theorem ex9 : ∃ x, P9 x → ∀ y, P9 y := drinker P9 (PySem.Challenge.rw_np0139_01.prog, w0, default, default, default, default, default, default, default, default, default, default, default, (⟨fun _ => 0, 0, 0, 0, 0, 0, 0, 0⟩ : HoC), default, default, default, (fun _ => True), (fun _ _ _ _ _ _ _ _ => True), cx0)
@[irreducible] def c9 : T9 := Classical.choose ex9
@[irreducible] def prog := c9.1
@[irreducible] def w := c9.2.1
@[irreducible] def mean := c9.2.2.1
@[irreducible] def mg := c9.2.2.2.1
@[irreducible] def mb := c9.2.2.2.2.1
@[irreducible] def ev := c9.2.2.2.2.2.1
@[irreducible] def ed := c9.2.2.2.2.2.2.1
@[irreducible] def ho := c9.2.2.2.2.2.2.2.1
@[irreducible] def hdd := c9.2.2.2.2.2.2.2.2.1
@[irreducible] def tw := c9.2.2.2.2.2.2.2.2.2.1
@[irreducible] def dt := c9.2.2.2.2.2.2.2.2.2.2.1
@[irreducible] def st := c9.2.2.2.2.2.2.2.2.2.2.2.1
@[irreducible] def nm := c9.2.2.2.2.2.2.2.2.2.2.2.2.1
@[irreducible] def hc := c9.2.2.2.2.2.2.2.2.2.2.2.2.2.1
@[irreducible] def depth := c9.2.2.2.2.2.2.2.2.2.2.2.2.2.2.1
@[irreducible] def spent := c9.2.2.2.2.2.2.2.2.2.2.2.2.2.2.2.1
@[irreducible] def rest := c9.2.2.2.2.2.2.2.2.2.2.2.2.2.2.2.2.1
@[irreducible] def P := c9.2.2.2.2.2.2.2.2.2.2.2.2.2.2.2.2.2.1
@[irreducible] def R := c9.2.2.2.2.2.2.2.2.2.2.2.2.2.2.2.2.2.2.1
@[irreducible] def x9 := c9.2.2.2.2.2.2.2.2.2.2.2.2.2.2.2.2.2.2.2
abbrev h₀ := x9.2.2.2.2.2.2.2.2.2.2.2.1
theorem core9 : S9 prog w mean mg mb ev ed ho hdd tw dt st nm hc depth spent rest P R x9 := by
 refine wr_z (by
 intro c B F XB TB DK N hk hdp hu hret hexc
 have X : (K9 w.params).In h₀ := XB.keeps B.stays
 have T : Top view9 lse mean mg mb h₀ := TB.keeps B.stays
 simp only [hoL] at N
 refine wpAny_call ?_
 k_dflt walk_at "enterX"
 k_with "call ref" => ((fail_if_success (fail_if_success (have h9 := in_E7))); ((refine Stop.out ?_)))
 f_tup
 k_steps
 refine Stop.mk ?_
 f_tup
 rename Fr _ _ _ _ => F9
 rename News _ _ _ _ => N9
 refine DoesX.use B' F9 XB TB D' N9 rfl c (by ktr_room) (by ktr_units) ?_ ?_
 ·intro g2 r h2 tk2 news2 t2 F2 N2 K2 X2 T2 D2
  (km_mul tt; k_extra "st"; k_extra "sr"; intro hP)
  f_tup
  clear F9 N9
  f_tup
  k_steps
  exact hret _ _ _ _ news2 (by assumption) (by assumption) (by assumption) (by assumption) (by assumption) (by assumption) (by assumption) ⟨rfl, .inl hP⟩
 ·intro g2 e h2 tk2 news2 t2 F2 N2 K2 X2 T2 D2
  (km_mul k; km_mul x; km_mul mA; km_mul T0; km_mul dx; km_mul oe; km_mul oT; km_mul od; km_mul l; k_extra "st"; km_mul c'; km_mul now; km_mul num; km_mul es; km_mul ne; km_mul l'; k_extra "st"; k_extra "sr"; km_mul y1; km_mul y2; km_mul y3; km_mul y4; km_mul y5; km_mul k0; km_mul k1; intro hR; km_mul hm; km_mul fly; k_extra "sr")
  f_tup
  clear F9 N9
  (try (with_reducible first | refine unq (by assumption) ?_ | refine unw (by assumption) ?_))
  refine caught_own F2 N2 fly K2 XB TB D2 t2 (by k_is) raised_isx ?_
  intro h3 g3 tk3 T3 oe3 oT3 t3 F3 N3 fly3 K3 X3 T4 D3
  simp only [erL] at N3
  f_tup
  k_steps
  refine Stop.mk ?_
  f_tup
  rename Fr _ _ _ _ => F9
  rename News _ _ _ _ => N9
  f_tup
  (refine arr ?_ (fly3.fld); km_mul vs3; km_mul f31; intro f32)
  refine DoesM.use K3 F9 X3 T4 N9 rfl (told_does (.head _) (.tail _ (.tail _ (.head _))) fly3.cls fly3.dict f31 fly3.ns hm k0 k1) (by ktr_room) (by ktr_units) ?_
  clear F9 N9
  intro v8 h8 tk8 news8 F8 N8
  (km_mul tt; k_extra "st"; k_extra "sr"; k_extra "sr")
  f_tup
  have e1 : c'.er ≠ e := fly3.a1 (c'.er, _) (by simp only [erL]; exact .tail _ (.tail _ (.tail _ (.head _))))
  have e2 : c'.er ≠ T3 := fly3.a2 (c'.er, _) (by simp only [erL]; exact .tail _ (.tail _ (.tail _ (.head _))))
  have e3 : c'.er ≠ dx := fly3.a3 (c'.er, _) (by simp only [erL]; exact .tail _ (.tail _ (.head _)))
  f_tup
  k_steps
  rename News _ _ _ _ => N7
  exact hret _ _ _ _ _ (by assumption) (by assumption) (fun p hp => N7 p (.tail _ (.tail _ (.tail _ hp)))) (by assumption) (by assumption) (by assumption) (by assumption) ⟨rfl, .inr ⟨k, x, c', now, num, es, ne, l', tt, hR, rfl⟩⟩
 ) ?_
 intro q f
 simpa using f (default : (by exact Fin 1))

theorem ok9 : ∀ y, P9 y := Classical.choose_spec ex9 (by with_unfolding_all exact core9)
end run_event_h
theorem run_event_does {prog : Program} {w : World} {mean : ExcName → Option Value} {mg mb : Str → Option Value} {ev ed ho hdd : Addr} {tw dt st : Tok} {nm : Str} {hc : HoC} {depth spent : Int} {rest : Led} {P : Led → Prop} {R : Int → Str → EvC → Int → Int → List Value → Nat → Led → Prop}
  (c : DoesX prog w mean mg mb 340 [.ref ho, .str nm tw] 20 130 (hoL w.params ho hdd hc depth dt spent st rest) (fun v l => ∃ t, v = .str "done" t ∧ P l)
   (Thrown fun k x l => ∃ c now num es ne l', l = erL w.params ev ed c now num es ne l' ∧ ev ≠ ed ∧ ev ≠ c.er ∧ ed ≠ c.er ∧ (∀ p ∈ l', p.1 ≠ c.er) ∧ es.length < 1000000 ∧ 0 ≤ k ∧ k < 1000 ∧ R k x c now num es ne l')) :
  DoesX prog w mean mg mb 181 [.ref ev, .ref ho, .str nm tw] 22 140 (hoL w.params ho hdd hc depth dt spent st rest)
   (fun v l => v = .none ∧ (P l ∨ ∃ k x c now num es ne l' t, R k x c now num es ne l' ∧ l = erL w.params ev ed c now num (es.concat (.str (toldS k x) t)) (ne + 1) l')) (fun _ _ => False) := by
 intros dp un gd cn cs a' ccd cl outer A₀ base h₀ L m s Q E B9 F9 XB9 TB9 D9 N9 k9 hcl9
 subst hcl9
 exact run_event_h.ok9 (prog, w, mean, mg, mb, ev, ed, ho, hdd, tw, dt, st, nm, hc, depth, spent, rest, P, R, (dp, un, gd, cn, cs, a', ccd, [], outer, A₀, base, h₀, L, m, s, Q, E)) c B9 F9 XB9 TB9 D9 N9 k9
end
theorem In_E8.in_E8 : True := trivial
noncomputable section
open In_E8 Off9
structure Sta (ev ed lg er ho hdd : Addr) (c : EvC) (t : Led) : Prop where
 ce : c.er = er
 nd : [ev, ed, lg, er, ho, hdd, c.q, c.i].Nodup
 off : ∀ p ∈ t, p.1 ∉ [ev, ed, lg, er, ho, hdd, c.q, c.i]
noncomputable abbrev wL (P : Params) (ev ed lg ho hdd : Addr) (hc : HoC) (dt : Tok) (spent : Int) (st : Tok) (c : EvC) (a : EvS) (es : List Value) (ne : Nat) (t : Led) : Led :=
 hoL P ho hdd hc 0 dt spent st (evL P ev ed lg c a ((c.er, listOf es.toArray ne) :: t))
noncomputable def ErrR (es : List Value) (o : Option (Int × Str)) (es' : List Value) : Prop := match o with
 |none => es' = es
 |some (k, x) => ∃ t, es' = es.concat (.str (toldS k x) t)
theorem Sta.ne {ev ed lg er ho hdd : Addr} {c : EvC} {t : Led} (h : Sta ev ed lg er ho hdd c t) :
  (ev ≠ ed ∧ ev ≠ lg ∧ ev ≠ er ∧ ev ≠ ho ∧ ev ≠ hdd ∧ ev ≠ c.q ∧ ev ≠ c.i) ∧ (ed ≠ lg ∧ ed ≠ er ∧ ed ≠ ho ∧ ed ≠ hdd ∧ ed ≠ c.q ∧ ed ≠ c.i) ∧ (lg ≠ er ∧ lg ≠ ho ∧ lg ≠ hdd ∧ lg ≠ c.q ∧ lg ≠ c.i) ∧
  (er ≠ ho ∧ er ≠ hdd ∧ er ≠ c.q ∧ er ≠ c.i) ∧ (ho ≠ hdd ∧ ho ≠ c.q ∧ ho ≠ c.i) ∧ (hdd ≠ c.q ∧ hdd ≠ c.i) ∧ c.q ≠ c.i := by
 have nd := h.nd
 simp only [List.nodup_cons, List.mem_cons, List.not_mem_nil, or_false, not_or, List.nodup_nil, and_true, not_false_eq_true] at nd
 exact nd
theorem Sta.to {ev ed lg er ho hdd : Addr} {c : EvC} {t : Led} (h : Sta ev ed lg er ho hdd c t) {p : Addr × Obj} (hp : p ∈ t) : p.1 ≠ ev ∧ p.1 ≠ ed ∧ p.1 ≠ lg ∧ p.1 ≠ er ∧ p.1 ≠ ho ∧ p.1 ≠ hdd ∧ p.1 ≠ c.q ∧ p.1 ≠ c.i := by
 have off := h.off p hp
 simp only [List.mem_cons, List.not_mem_nil, or_false, not_or] at off
 exact off
theorem Sta.fix {ev ed lg er ho hdd : Addr} {c : EvC} {t : Led} (h : Sta ev ed lg er ho hdd c t) {wd : Addr} {ow oe oh od : Obj} (h1 : wd ≠ ev) (h2 : wd ≠ ed) (h3 : wd ≠ lg) : Fix ev ed lg ((wd, ow) :: (ho, oh) :: (hdd, od) :: (er, oe) :: t) := by
 have ne := h.ne
 have to := fun (p : Addr × Obj) (hp : p ∈ t) => h.to hp
 exact ⟨ne.1.1, ne.1.2.1, ne.2.1.1,
  off_cons h1 (off_cons (nd_ne h.nd 4 0 rfl) (off_cons (nd_ne h.nd 5 0 rfl) (off_cons (nd_ne h.nd 3 0 rfl) fun p hp => (to p hp).1))),
  off_cons h2 (off_cons (nd_ne h.nd 4 1 rfl) (off_cons (nd_ne h.nd 5 1 rfl) (off_cons (nd_ne h.nd 3 1 rfl) fun p hp => (to p hp).2.1))),
  off_cons h3 (off_cons (nd_ne h.nd 4 2 rfl) (off_cons (nd_ne h.nd 5 2 rfl) (off_cons (nd_ne h.nd 3 2 rfl) fun p hp => (to p hp).2.2.1)))⟩
theorem Sta.loose {ev ed lg er ho hdd : Addr} {c : EvC} {t : Led} (h : Sta ev ed lg er ho hdd c t) {wd : Addr} {ow oe oh od : Obj} (h1 : wd ≠ c.q) (h2 : wd ≠ c.i) : Loose (fx ev ed lg ((wd, ow) :: (ho, oh) :: (hdd, od) :: (er, oe) :: t)) c := by
 have ne := h.ne
 have to := fun (p : Addr × Obj) (hp : p ∈ t) => h.to hp
 refine ⟨?_, ?_, ne.2.2.2.2.2.2⟩
 all_goals simp only [fx, List.map_cons, List.mem_cons, List.mem_map, not_or, not_exists, not_and]
 all_goals grind
theorem Sta.next {ev ed lg er ho hdd : Addr} {c c' : EvC} {mt r add : Led} (h : Sta ev ed lg er ho hdd c (mt ++ r)) {wd : Addr} {ow oe oh od : Obj} (her : c'.er = c.er) (hO : Off (fx ev ed lg ((wd, ow) :: (ho, oh) :: (hdd, od) :: (er, oe) :: (mt ++ r))) add)
  (hZ : Loose (add.map (·.1) ++ fx ev ed lg ((wd, ow) :: (ho, oh) :: (hdd, od) :: (er, oe) :: (mt ++ r))) c') : Sta ev ed lg er ho hdd c' (mt ++ (add ++ r)) ∧ Off ((mt ++ r).map (·.1)) add := by
 revert ev ed lg er ho hdd c c' mt r add h wd ow oe oh od her hO hZ
 intro ev ed lg er ho hdd c c' mt r add h wd ow oe oh od her hO hZ
 have ne := h.ne
 have to := fun (p : Addr × Obj) (hp : p ∈ mt ++ r) => h.to hp
 obtain ⟨z1, z2, z3⟩ := hZ
 simp only [Off, fx, List.map_cons, List.mem_cons, List.mem_map, List.mem_append, not_or, not_exists, not_and, List.map_append] at hO z1 z2 to
 refine ⟨⟨her.trans h.ce, ?_, ?_⟩, ?_⟩
 ·simp only [List.nodup_cons, List.mem_cons, List.not_mem_nil, or_false, not_or, List.nodup_nil, and_true, not_false_eq_true]
  grind
 ·intros p hp
  simp only [List.mem_cons, List.not_mem_nil, or_false, not_or, List.mem_append] at hp ⊢
  have h1 := z1.1 p
  have h2 := z2.1 p
  rcases hp with hp | hp | hp
  ·have := to p (.inl hp)
   have e1 := z1.2.2.2.2.2.2.2.2.1 p hp
   have e2 := z2.2.2.2.2.2.2.2.2.1 p hp
   grind
  ·have := hO p hp
   grind
  ·have := to p (.inr hp)
   have e1 := z1.2.2.2.2.2.2.2.2.2 p hp
   have e2 := z2.2.2.2.2.2.2.2.2.2 p hp
   grind
 ·intros p hp hm
  have := hO p hp
  simp only [List.map_append, List.mem_append, List.mem_map] at hm
  rcases hm with ⟨q, hq, e⟩ | ⟨q, hq, e⟩
  ·exact this.2.2.2.2.2.2.2.1 q hq e
  ·exact this.2.2.2.2.2.2.2.2 q hq e
end
theorem In_E9.in_E9 : True := trivial
noncomputable section
open In_E9
noncomputable def Ran (ev ed lg ho hdd : Addr) (mt r : Led) (c : EvC) (a : EvS) (nm : Str) (acts : List (Int × Int × Str)) (n : Nat) (o : Option (Int × Str)) (add : Led) (c' : EvC) (b : EvS) : Prop :=
 ActsR acts (started a nm) b o ∧ EvB b n ∧ EvRep (add ++ r) c' b ∧ Sta ev ed lg c.er ho hdd c' (mt ++ (add ++ r)) ∧ Off ((mt ++ r).map (·.1)) add ∧ c'.er = c.er
theorem script_does {prog : Program} {w : World} {mean : ExcName → Option Value} {mg mb : Str → Option Value} {mt r : Led}
  {ev ed lg ho hdd z zd al nz ndt na n ne : Nat} {hc : HoC} {dt st tw : Tok} {spent : Int} {c : EvC} {a : EvS} {nm : Str} {es as : List Value} {acts : List (Int × Int × Str)} {ocm otl : Obj} {kvs kvt : List (Str × Value)}
  (S : Sta ev ed lg c.er ho hdd c (mt ++ r)) (R : EvRep r c a) (wf : EvB a (acts.length + n + 2)) (hes : es.length < 1000000)
  (hcm : (hc.cm, ocm) ∈ r) (hdm : ocm.IsDictOf (strKind prog w) kvs) (hlo : (hc.cm == sysModules) = false) (hv : valueAt kvs nm = some (.ref z)) (hz : (z, tupO [.ref 585, .ref zd] nz) ∈ r)
  (htl : (hc.tl, otl) ∈ r) (hdl : otl.IsDictOf (strKind prog w) kvt) (hlo2 : (hc.tl == sysModules) = false) (hvt : valueAt kvt "run" = some (.ref 592))
  (hzd : (zd, tupO [.ref ev, .ref lg, .ref al] ndt) ∈ r) (hal : (al, listOf as.toArray na) ∈ r) (DA : DatAll r as (acts.map tD)) (hac : acts.length < 1000) (hk : ∀ t ∈ acts, t.1 = 3 → 0 ≤ t.2.1 ∧ t.2.1 < 1000) :
  DoesX prog w mean mg mb 181 [.ref ev, .ref ho, .str nm tw] 22 140 (wL w.params ev ed lg ho hdd hc dt spent st c a es ne (mt ++ r))
   (fun v l => v = .none ∧ ∃ o add c' b es' ne' dt' spent' st', Ran ev ed lg ho hdd mt r c a nm acts n o add c' b ∧ ErrR es o es' ∧ l = wL w.params ev ed lg ho hdd hc dt' spent' st' c' b es' ne' (mt ++ (add ++ r)))
   (fun _ _ => False) := by
 revert prog w mean mg mb mt r ev ed lg ho hdd z zd al nz ndt na n ne hc dt st tw spent c a nm es as acts ocm otl kvs kvt S R wf hes hcm hdm hlo hv hz htl hdl hlo2 hvt hzd hal DA hac hk
 intro prog w mean mg mb mt r ev ed lg ho hdd z zd al nz ndt na n ne hc dt st tw spent c a nm es as acts ocm otl kvs kvt S R wf hes hcm hdm hlo hv hz htl hdl hlo2 hvt hzd hal DA hac hk
 have ne0 := S.ne
 have hhd : ∀ {a : EvS} {c : EvC} {t : Led}, Sta ev ed lg c.er ho hdd c t → ∀ p ∈ evL w.params ev ed lg c a ((c.er, listOf es.toArray ne) :: t), p.1 ≠ hdd := by
  intro a c t S
  exact off_cons (nd_ne S.nd 0 5 rfl) (off_cons (nd_ne S.nd 1 5 rfl) (off_cons (nd_ne S.nd 6 5 rfl) (off_cons (nd_ne S.nd 7 5 rfl) (off_cons (nd_ne S.nd 2 5 rfl) (off_cons (nd_ne S.nd 3 5 rfl) fun p hp e => S.off p hp (by rw [e]; exact .tail _ (.tail _ (.tail _ (.tail _ (.tail _ (.head _))))))))))) 
 have c585 : ∀ wd nw dt' st', (∀ p ∈ hoL w.params ho hdd hc 1 dt' spent st (evL w.params ev ed lg c a ((c.er, listOf es.toArray ne) :: (mt ++ r))), p.1 < wd) →
   DoesX prog w mean mg mb 585 [.ref ho, .ref wd, .ref zd] 8 60 (hoL w.params ho hdd hc 1 dt' (spent + 1) st' ((wd, listOf [.str nm tw].toArray nw) :: evL w.params ev ed lg c a ((c.er, listOf es.toArray ne) :: (mt ++ r))))
    (fun v l => ∃ t, v = .str "done" t ∧ ∃ add c' b, Ran ev ed lg ho hdd mt r c a nm acts n none add c' b ∧ l = hoL w.params ho hdd hc 1 dt' (spent + 1) st' (evL w.params ev ed lg c' b ((c.er, listOf es.toArray ne) :: (mt ++ (add ++ r)))))
    (Thrown fun k x l => ∃ add c' b, Ran ev ed lg ho hdd mt r c a nm acts n (some (k, x)) add c' b ∧ l = hoL w.params ho hdd hc 1 dt' (spent + 1) st' (evL w.params ev ed lg c' b ((c.er, listOf es.toArray ne) :: (mt ++ (add ++ r))))) := by
  intro wd nw dt' st' lt
  simp only [hoL, evL, List.forall_mem_cons] at lt
  f_tup
  (revert lt; km_mul l1; km_mul l2; km_mul l3; km_mul l4; km_mul l5; km_mul l6; km_mul l7; km_mul l8; intro l9)
  have k := law_command_does (prog := prog) (w := w) (mean := mean) (mg := mg) (mb := mb) (mt := (wd, listOf [.str nm tw].toArray nw) :: (ho, instObj 534 hdd) :: (hdd, dictOf (hoD w.params hc 1 dt' (spent + 1) st') 12) :: (c.er, listOf es.toArray ne) :: mt)
   (r := r) (ho := ho) (wd := wd) (dt := zd) (nm := nm) (n := n) (c := c) (a := a) (S.fix (Nat.ne_of_gt l3) (Nat.ne_of_gt l4) (Nat.ne_of_gt l7)) (S.loose (Nat.ne_of_gt l5) (Nat.ne_of_gt l6)) R wf (.head _)
   (List.mem_append_right _ hzd) (List.mem_append_right _ hal) DA hac
  refine k.conseq ?_ ?_ ?_
  ·dsimp only [hoL, evL, List.cons_append]
   kqd_sub
  ·intro v l
   (km_mul t; km_mul add; km_mul c'; km_mul b; k_extra "st"; k_extra "sr"; km_mul h1; km_mul h2; km_mul h3; km_mul h4; km_mul h5; km_mul h6; k_extra "sr")
   f_tup
   f_tup
   (refine arr ?_ (S.next h6 h4 h5); km_mul S'; intro hO)
   refine ⟨_, ?_, t, rfl, add, c', b, ⟨h1, h2, h3, S', hO, h6⟩, rfl⟩
   dsimp only [hoL, evL, List.cons_append]
   kqd_sub
  ·intro e l
   (km_mul add; km_mul c'; km_mul b; km_mul k; km_mul x; km_mul mA; km_mul T; km_mul dx; km_mul oe; km_mul oT; km_mul od; km_mul h1; km_mul h2; km_mul h3; km_mul h4; km_mul h5; km_mul h6; km_mul h7; km_mul h8; k_extra "sr")
   f_tup
   f_tup
   (refine arr ?_ (S.next h6 h4 h5); km_mul S'; intro hO)
   have sub : ∀ p ∈ hoL w.params ho hdd hc 1 dt' (spent + 1) st' (evL w.params ev ed lg c' b ((c.er, listOf es.toArray ne) :: (mt ++ (add ++ r)))), p ∈ evL w.params ev ed lg c' b (((wd, listOf [.str nm tw].toArray nw) :: (ho, instObj 534 hdd) :: (hdd, dictOf (hoD w.params hc 1 dt' (spent + 1) st') 12) :: (c.er, listOf es.toArray ne) :: mt) ++ (add ++ r)) := by
    dsimp only [hoL, evL, List.cons_append]
    kqd_sub
   refine ⟨_, ?_, k, x, mA, T, dx, oe, oT, od, _, ⟨add, c', b, ⟨h1, h2, h3, S', hO, h6⟩, rfl⟩, h7, h8.sub sub, rfl⟩
   intro p hp
   rcases List.mem_cons.mp hp with rfl | hp
   ·exact .head _
   rcases List.mem_cons.mp hp with rfl | hp
   ·exact .tail _ (.head _)
   rcases List.mem_cons.mp hp with rfl | hp
   ·exact .tail _ (.tail _ (.head _))
   ·exact .tail _ (.tail _ (.tail _ (sub p hp)))
 have inr : ∀ {wd nw} {p : Addr × Obj}, p ∈ r → p ∈ (wd, listOf [.str nm tw].toArray nw) :: evL w.params ev ed lg c a ((c.er, listOf es.toArray ne) :: (mt ++ r)) := fun h => by
  dsimp only [evL]; k_mem
 have c592 : ∀ dt', DoesX prog w mean mg mb 592 [.ref ho, .str nm tw] 16 100 (hoL w.params ho hdd hc 1 dt' spent st (evL w.params ev ed lg c a ((c.er, listOf es.toArray ne) :: (mt ++ r))))
    (fun v l => ∃ t, v = .str "done" t ∧ ∃ spent' st' l', l = hoL w.params ho hdd hc 1 dt' spent' st' l' ∧ (∀ p ∈ l', p.1 ≠ hdd) ∧ ∃ add c' b, Ran ev ed lg ho hdd mt r c a nm acts n none add c' b ∧ l' = evL w.params ev ed lg c' b ((c.er, listOf es.toArray ne) :: (mt ++ (add ++ r))))
    (Thrown fun k x l => ∃ spent' st' l', l = hoL w.params ho hdd hc 1 dt' spent' st' l' ∧ (∀ p ∈ l', p.1 ≠ hdd) ∧ ∃ add c' b, Ran ev ed lg ho hdd mt r c a nm acts n (some (k, x)) add c' b ∧ l' = evL w.params ev ed lg c' b ((c.er, listOf es.toArray ne) :: (mt ++ (add ++ r)))) := by
  intro dt'
  refine law_run_does (P := fun l => ∃ spent' st' l', l = hoL w.params ho hdd hc 1 dt' spent' st' l' ∧ (∀ p ∈ l', p.1 ≠ hdd) ∧ ∃ add c' b, Ran ev ed lg ho hdd mt r c a nm acts n none add c' b ∧ l' = evL w.params ev ed lg c' b ((c.er, listOf es.toArray ne) :: (mt ++ (add ++ r)))) ?_
  intro wd nw lt
  refine call_does (List.mem_cons_self ..) ?_
  have b := begin_does (prog := prog) (w := w) (mean := mean) (mg := mg) (mb := mb) (ho := ho) (hdd := hdd) (wd := wd) (z := z) (zd := zd) (nw := nw) (nz := nz) (c := hc) (depth := 1) (spent := spent) (dt := dt') (st := st) (tw := tw) (nm := nm) (ocm := ocm) (kvs := kvs)
   (rest := (wd, listOf [.str nm tw].toArray nw) :: evL w.params ev ed lg c a ((c.er, listOf es.toArray ne) :: (mt ++ r)))
   (by
    intro p hp
    rcases List.mem_cons.mp hp with rfl | hp
    ·exact Nat.ne_of_gt (lt (hdd, dictOf (hoD w.params hc 1 dt' spent st) 12) (by simp [hoL]))
    ·exact hhd S p hp) ne0.2.2.2.2.1.1 (inr hcm) hdm hlo hv (inr hz) (List.mem_cons_self ..) (fun st' => c585 wd nw dt' st' lt)
  refine b.conseq (fun p hp => hp) ?_ ?_
  ·intro v l
   (km_mul st'; km_mul t; k_extra "st"; k_extra "sr"; km_mul add; km_mul c'; km_mul b; km_mul hR; k_extra "sr")
   f_tup
   f_tup
   (refine arr ?_ (id hR); km_mul o9_74; km_mul o9_75; km_mul o9_76; km_mul S'; km_mul o9_77; intro her)
   refine ⟨_, fun p hp => hp, t, rfl, _, st', _, rfl, ?_, add, c', b, hR, rfl⟩
   rw [← her]
   exact hhd (her ▸ S')
  ·refine Thrown.conseq ?_
   intro k x l
   (km_mul st'; km_mul add; km_mul c'; km_mul b; km_mul hR; k_extra "sr")
   f_tup
   f_tup
   (refine arr ?_ (id hR); km_mul o9_79; km_mul o9_80; km_mul o9_81; km_mul S'; km_mul o9_82; intro her)
   refine ⟨_, fun p hp => hp, _, st', _, rfl, ?_, add, c', b, hR, rfl⟩
   rw [← her]
   exact hhd (her ▸ S')
 have c340 := run_global_does (run_does (rest := evL w.params ev ed lg c a ((c.er, listOf es.toArray ne) :: (mt ++ r))) (dt := dt) (fun p hp => hhd S p hp) ne0.2.2.2.2.1.1 (by dsimp only [evL]; k_mem) hdl hlo2 hvt c592)
 have c181 := run_event_does (ev := ev) (ed := ed) (prog := prog) (w := w) (mean := mean) (mg := mg) (mb := mb)
  (P := fun l => ∃ spent' st' dt' l', l = hoL w.params ho hdd hc 0 dt' spent' st' l' ∧ (∀ p ∈ l', p.1 ≠ hdd) ∧ ∃ add c' b, Ran ev ed lg ho hdd mt r c a nm acts n none add c' b ∧ l' = evL w.params ev ed lg c' b ((c.er, listOf es.toArray ne) :: (mt ++ (add ++ r))))
  (R := fun k x c' now num es' ne' l' => ∃ spent' st' dt' add b, Ran ev ed lg ho hdd mt r c a nm acts n (some (k, x)) add c' b ∧ now = b.now ∧ num = b.num ∧ es' = es ∧ ne' = ne ∧
   l' = (ho, instObj 534 hdd) :: (hdd, dictOf (hoD w.params hc 0 dt' spent' st') 12) :: (c'.q, listOf c'.qs.toArray c'.nq) :: (c'.i, listOf c'.is.toArray c'.ni) :: (lg, listOf c'.ls.toArray c'.nl) :: (mt ++ (add ++ r)))
  (c340.conseq (fun p hp => hp) (fun v l h => ⟨l, fun p hp => hp, h⟩) (Thrown.conseq ?conv))
 case conv =>
  intro k x l
  (km_mul spent'; km_mul st'; km_mul dt'; km_mul l'; k_extra "st"; k_extra "sr"; km_mul ol; km_mul add; km_mul c'; km_mul b; km_mul hR; k_extra "sr")
  f_tup
  f_tup
  (refine arr ?_ (id hR); km_mul hA; km_mul o9_84; km_mul o9_85; km_mul S'; km_mul o9_86; intro her)
  have ne1 := S'.ne
  have to := fun (p : Addr × Obj) (hp : p ∈ mt ++ (add ++ r)) => S'.to hp
  have hkx : 0 ≤ k ∧ k < 1000 := by
   have key : ∀ (l : List (Int × Int × Str)) (a b : EvS) (o : Option (Int × Str)), ActsR l a b o → (∀ t ∈ l, t.1 = 3 → 0 ≤ t.2.1 ∧ t.2.1 < 1000) → ∀ k x, o = some (k, x) → 0 ≤ k ∧ k < 1000 := by
    intro l a b o h
    induction h with
    |nil => intro _ _ _ h; cases h
    |stop => intro h1 k x h2; cases h2; exact h1 _ (.head _) rfl
    |step _ _ _ ih => intro h1; exact ih fun t ht => h1 t (.tail _ ht)
   exact key _ _ _ _ hA hk k x rfl
  refine ⟨_, ?_, c', b.now, b.num, es, ne, _, rfl, ne1.1.1, ?_, ?_, ?_, hes, hkx.1, hkx.2, spent', st', dt', add, b, hR, rfl, rfl, rfl, rfl, rfl⟩
  ·dsimp only [erL, hoL, evL]
   simp only [her]
   kqd_sub
  ·rw [her]; exact ne1.1.2.2.1
  ·rw [her]; exact ne1.2.1.2.1
  ·rw [her]
   exact off_cons (nd_ne S'.nd 4 3 rfl) (off_cons (nd_ne S'.nd 5 3 rfl) (off_cons (nd_ne S'.nd 6 3 rfl) (off_cons (nd_ne S'.nd 7 3 rfl) (off_cons (nd_ne S'.nd 2 3 rfl) fun p hp e => S'.off p hp (by rw [e]; exact .tail _ (.tail _ (.tail _ (.head _))))))))
 refine c181.conseq (fun p hp => hp) ?_ (fun _ _ h => h.elim)
 intro v l
 (k_extra "st"; k_extra "sr"; intro hv9)
 f_tup
 f_tup
 focus (rcases hv9 with o9_89 | o9_89; (focus (revert o9_89; km_mul spent'; km_mul st'; km_mul dt'; km_mul l'; k_extra "st"; k_extra "sr"; km_mul ol; km_mul add; km_mul c'; km_mul b; km_mul hR; k_extra "sr")); rotate_left; (focus (revert o9_89; km_mul k; km_mul x; km_mul c'; km_mul now; km_mul num; km_mul es'; km_mul ne'; km_mul l'; km_mul t; k_extra "st"; km_mul spent'; km_mul st'; km_mul dt'; km_mul add; km_mul b; km_mul hR; k_extra "st"; k_extra "sr"; k_extra "st"; k_extra "sr"; k_extra "st"; k_extra "sr"; k_extra "st"; k_extra "sr"; k_extra "sr"; k_extra "sr")); rotate_left)
 ·have her := hR.2.2.2.2.2
  refine ⟨_, fun p hp => hp, rfl, none, add, c', b, es, ne, dt', spent', st', hR, rfl, ?_⟩
  simp only [wL, her]
 ·refine ⟨_, ?_, rfl, some (k, x), add, c', b, _, ne' + 1, dt', spent', st', hR, ⟨t, rfl⟩, rfl⟩
  dsimp only [wL, erL, hoL, evL]
  kqd_sub
end
theorem In_P1.in_P1 : True := trivial
noncomputable section
open In_P1 Off9
noncomputable def sNames : List Str := [Str.ofString "p", Str.ofString "after#1", Str.ofString "q", Str.ofString "after#4", Str.ofString "r"]
noncomputable def wtN (x : Str) : Nat := if x = Str.ofString "p" then 5 else if x = Str.ofString "after#1" then 4 else if x = Str.ofString "q" then 3 else if x = Str.ofString "after#4" then 2 else 1
theorem wtN_pos (x : Str) : 1 ≤ wtN x := by unfold wtN; (repeat' split) <;> w_how
theorem wtN_le (x : Str) : wtN x ≤ 5 := by unfold wtN; (repeat' split) <;> w_how
noncomputable abbrev Act := Int × Int × Str
noncomputable def isAdd (t : Act) : Bool := decide (t.1 = 0 ∨ t.1 = 1)
structure ActsOk (W : Nat) (l : List Act) : Prop where
 len : l.length ≤ 2
 adds : ∀ t ∈ l, isAdd t = true → t.2.2 ∈ sNames ∧ wtN t.2.2 < W
 one : l.countP isAdd ≤ 1
 kind : ∀ t ∈ l, 0 ≤ t.1 ∧ t.1 ≤ 4
 code : ∀ t ∈ l, t.1 = 3 → 0 ≤ t.2.1 ∧ t.2.1 < 1000
 says : ∀ t ∈ l, t.1 = 3 → PyData.strOk t.2.2 = true
noncomputable def potL (l : List Str) : Nat := (l.map wtN).sum
noncomputable def pot (a : EvS) : Nat := potL (a.q.map (·.2.2)) + potL (a.i.map (·.2))
theorem potL_append (l l' : List Str) : potL (l ++ l') = potL l + potL l' := by simp [potL]
theorem potL_cons (x : Str) (l : List Str) : potL (x :: l) = wtN x + potL l := by simp [potL]
theorem potL_sub {l l' : List Str} (h : l.Sublist l') : potL l ≤ potL l' := by
 induction h with
 |slnil => exact Nat.le_refl _
 |cons a _ ih => rw [potL_cons]; w_how
 |cons_cons a _ ih => rw [potL_cons, potL_cons]; w_how
structure WfG (L : Nat) (M : Int) (G P : Nat) (a : EvS) : Prop where
 nd : (a.q.map (·.2.1) ++ a.i.map (·.1)).Nodup
 lo : ∀ m ∈ a.q.map (·.2.1) ++ a.i.map (·.1), 0 ≤ m ∧ m < a.num
 n0 : 0 ≤ a.num
 nq : ∀ t ∈ a.q, t.2.2 ∈ sNames
 ni : ∀ t ∈ a.i, t.2 ∈ sNames
 len : a.q.length + a.i.length ≤ L
 num : a.num + pot a ≤ M
 log : a.log.length + 2 * pot a ≤ G
 pt : pot a ≤ P
theorem WfG.evB {L G P n : Nat} {M : Int} {a : EvS} (h : WfG L M G P a) (h1 : L + n ≤ 59) (h2 : M + n ≤ 999999) (h3 : G + n ≤ 999999) : EvB a n :=
 evB_of h.nd h.lo h.n0 (by have := h.num; w_how) (by have := h.len; w_how) (by have := h.log; w_how)
theorem done_G {k wt : Int} {x : Str} {a b : EvS} {L G P W : Nat} {M : Int} (h : DoneR k wt x a b) (w : WfG L M G P a) (hx : isAdd (k, wt, x) = true → x ∈ sNames ∧ wtN x ≤ W) (hL : L ≤ 57) (hM : M ≤ 900000) (hG : G ≤ 900000) :
  if isAdd (k, wt, x) = true then WfG (L + 1) (M + W + 1) (G + 2 * W + 1) (P + W) b else WfG L M G P b := by
 revert k wt x a b L G P W M h w hx hL hM hG
 intro k wt x a b L G P W M h w hx hL hM hG
 have hB : EvB a 2 := w.evB (by w_how) (by w_how) (by w_how)
 have hb := done_B h (n := 1) hB
 have hnn := hb.nums
 obtain ⟨nd, lo, n0, nq, ni, len, num, log, pt⟩ := w
 rcases h with ⟨rfl, c, hc, h1, h2, rfl⟩ | ⟨rfl, rfl⟩ | ⟨rfl, tgt, hm, rfl⟩ | ⟨k0, k1, k2, rfl⟩
 ·have hi : isAdd (0, wt, x) = true := rfl
  rw [if_pos hi]
  obtain ⟨x1, x2⟩ := hx hi
  have hp : pot { a with num := a.num + 1, q := a.q.take c ++ (a.now + wt, a.num, x) :: a.q.drop c, log := a.log ++ [.str (aft a.num)] } = pot a + wtN x := by
   unfold pot
   dsimp only
   have e : potL (a.q.map (·.2.2)) = potL ((a.q.take c).map (·.2.2)) + potL ((a.q.drop c).map (·.2.2)) := by
    rw [← potL_append, ← List.map_append, List.take_append_drop]
   rw [List.map_append, List.map_cons, potL_append, potL_cons, e]
   dsimp only
   w_how
  have hl : (a.q.take c ++ (a.now + wt, a.num, x) :: a.q.drop c).length = a.q.length + 1 := by
   simp only [List.length_append, List.length_cons, List.length_take, List.length_drop]; w_how
  refine ⟨hb.nd, hnn, hb.n0, fun t ht => ?_, ni, ?_, ?_, ?_, ?_⟩
  ·dsimp only at ht
   rcases List.mem_append.mp ht with ht | ht
   ·exact nq t (List.mem_of_mem_take ht)
   rcases List.mem_cons.mp ht with rfl | ht
   ·exact x1
   ·exact nq t (List.mem_of_mem_drop ht)
  ·dsimp only; rw [hl]; w_how
  ·rw [hp]; dsimp only; w_how
  ·rw [hp]; dsimp only; rw [List.length_append]; simp only [List.length_cons, List.length_nil]; w_how
  ·rw [hp]; w_how
 ·have hi : isAdd (1, wt, x) = true := rfl
  rw [if_pos hi]
  obtain ⟨x1, x2⟩ := hx hi
  have hp : pot { a with num := a.num + 1, i := a.i ++ [(a.num, x)], log := a.log ++ [.str (aft a.num)] } = pot a + wtN x := by
   unfold pot
   dsimp only
   rw [List.map_append, potL_append]
   have : potL ((([(a.num, x)] : List (Int × Str))).map (·.2)) = wtN x := by simp [potL]
   w_how
  refine ⟨hb.nd, hnn, hb.n0, nq, fun t ht => ?_, ?_, ?_, ?_, ?_⟩
  ·dsimp only at ht
   rcases List.mem_append.mp ht with ht | ht
   ·exact ni t ht
   ·rw [List.mem_singleton.mp ht]; exact x1
  ·dsimp only; rw [List.length_append]; simp only [List.length_cons, List.length_nil]; w_how
  ·rw [hp]; dsimp only; w_how
  ·rw [hp]; dsimp only; rw [List.length_append]; simp only [List.length_cons, List.length_nil]; w_how
  ·rw [hp]; w_how
 ·have hi : ¬ isAdd (2, wt, x) = true := by simp [isAdd]
  rw [if_neg hi]
  have s1 : (offQ tgt a.q).Sublist a.q := List.filter_sublist
  have s2 : (offI tgt a.i).Sublist a.i := List.filter_sublist
  have l1 := s1.length_le
  have l2 := s2.length_le
  have hp : pot { a with q := offQ tgt a.q, i := offI tgt a.i } ≤ pot a := Nat.add_le_add (potL_sub (s1.map _)) (potL_sub (s2.map _))
  refine ⟨hb.nd, hnn, hb.n0, fun t ht => nq t (s1.subset ht), fun t ht => ni t (s2.subset ht), ?_, ?_, ?_, ?_⟩
  ·dsimp only; w_how
  ·dsimp only at hp ⊢; w_how
  ·dsimp only at hp ⊢; w_how
  ·exact Nat.le_trans hp pt
 ·have hi : ¬ isAdd (k, wt, x) = true := by simp [isAdd, k0, k1]
  rw [if_neg hi]
  exact ⟨nd, lo, n0, nq, ni, len, num, log, pt⟩
theorem acts_G0 {l : List Act} {a b : EvS} {o : Option (Int × Str)} (h : ActsR l a b o) : ∀ {L G P : Nat} {M : Int}, WfG L M G P a → l.countP isAdd = 0 → L ≤ 57 → M ≤ 900000 → G ≤ 900000 → WfG L M G P b := by
 induction h with
 |nil => intros L G P M w _ _ _ _; exact w
 |stop => intros L G P M w _ _ _ _; exact w
 |@step k wt x l a b c o h1 h2 _ ih =>
  intros L G P M w hc hL hM hG
  rw [List.countP_cons] at hc
  have hi : ¬ isAdd (k, wt, x) = true := fun hi => by rw [if_pos hi] at hc; w_how
  have g := done_G (W := 0) h2 w (fun q => absurd q hi) hL hM hG
  rw [if_neg hi] at g
  exact ih g (by w_how) hL hM hG
theorem acts_G {l : List Act} {a b : EvS} {o : Option (Int × Str)} (h : ActsR l a b o) : ∀ {L G P W : Nat} {M : Int}, WfG L M G P a → (∀ t ∈ l, isAdd t = true → t.2.2 ∈ sNames ∧ wtN t.2.2 ≤ W) → l.countP isAdd ≤ 1 → L ≤ 50 → M ≤ 800000 → G ≤ 800000 → W ≤ 5 →
  WfG L M G P b ∨ WfG (L + 1) (M + W + 1) (G + 2 * W + 1) (P + W) b := by
 induction h with
 |nil => intros L G P W M w _ _ _ _ _ _; exact .inl w
 |stop => intros L G P W M w _ _ _ _ _ _; exact .inl w
 |@step k wt x l a b c o h1 h2 h3 ih =>
  intros L G P W M w hx hc hL hM hG hW
  rw [List.countP_cons] at hc
  have g := done_G h2 w (fun q => hx _ (.head _) q) (by w_how) (by w_how) (by w_how)
  by_cases hi : isAdd (k, wt, x) = true
  ·rw [if_pos hi] at hc g
   exact .inr (acts_G0 h3 g (by w_how) (by w_how) (by w_how) (by w_how))
  ·rw [if_neg hi] at hc g
   exact ih g (fun t ht => hx t (.tail _ ht)) (by w_how) hL hM hG hW
noncomputable abbrev WfA (k : Nat) (a : EvS) : Prop := WfG k (6 * k) (11 * k) (5 * k) a
noncomputable def RunR (l : List Act) (nm : Str) (a : EvS) (er : List Str) (b : EvS) (er' : List Str) : Prop := ∃ o, ActsR l (started a nm) b o ∧ er' = er ++ (match o with | none => [] | some (k, x) => [toldS k x])
noncomputable def Less (nm : Str) (a a' : EvS) : Prop :=
 a'.num = a.num ∧ a'.log = a.log ∧ ((a'.i = a.i ∧ ∃ t m, a.q = (t, m, nm) :: a'.q) ∨ (a'.q = a.q ∧ ∃ m, a.i = (m, nm) :: a'.i))
theorem run_G {l : List Act} {nm : Str} {a a' b : EvS} {o : Option (Int × Str)} {k : Nat} (h : ActsR l (started a' nm) b o) (ok : ActsOk (wtN nm) l) (w : WfA k a) (hk : k ≤ 20) (e : Less nm a a') : WfA k b ∧ pot b < pot a := by
 revert l nm a a' b o k h ok w hk e
 intro l nm a a' b o k h ok w hk e
 obtain ⟨hnum, hlog, e⟩ := e
 have hp : pot a = wtN nm + pot a' := by
  rcases e with ⟨e1, t, m, e2⟩ | ⟨e1, m, e2⟩
  ·unfold pot; rw [e1, e2, List.map_cons, potL_cons]; dsimp only; w_how
  ·unfold pot; rw [e1, e2, List.map_cons, potL_cons]; dsimp only; w_how
 have hlen : a.q.length + a.i.length = a'.q.length + a'.i.length + 1 := by
  rcases e with ⟨e1, t, m, e2⟩ | ⟨e1, m, e2⟩
  ·rw [e1, e2, List.length_cons]; w_how
  ·rw [e1, e2, List.length_cons]; w_how
 obtain ⟨nd, lo, n0, nq, ni, len, num, log, pt⟩ := w
 have wp := wtN_pos nm
 have wl := wtN_le nm
 have hst : pot (started a' nm) = pot a' := rfl
 have w' : WfG (k - 1) (a.num + pot a') (a.log.length + 1 + 2 * pot a') (pot a') (started a' nm) := by
  have s1 : a'.q.Sublist a.q := by
   rcases e with ⟨e1, t, m, e2⟩ | ⟨e1, m, e2⟩
   ·rw [e2]; exact List.sublist_cons_self ..
   ·rw [e1]; exact List.Sublist.refl _
  have s2 : a'.i.Sublist a.i := by
   rcases e with ⟨e1, t, m, e2⟩ | ⟨e1, m, e2⟩
   ·rw [e1]; exact List.Sublist.refl _
   ·rw [e2]; exact List.sublist_cons_self ..
  have hs := (s1.map (·.2.1)).append (s2.map (·.1))
  refine ⟨nd.sublist hs, fun m hm => ?_, ?_, fun t ht => nq t (s1.subset ht), fun t ht => ni t (s2.subset ht), ?_, ?_, ?_, ?_⟩
  ·have := lo m (hs.subset hm)
   dsimp only; rw [hnum]; exact this
  ·dsimp only; rw [hnum]; exact n0
  ·dsimp only; w_how
  ·rw [hst]; dsimp only; rw [hnum]; exact Int.le_refl _
  ·rw [hst]; dsimp only; rw [hlog, List.length_append]; simp only [List.length_cons, List.length_nil]; w_how
  ·exact Nat.le_refl _
 rcases acts_G (W := wtN nm - 1) h w' (fun t ht q => ⟨(ok.adds t ht q).1, by have := (ok.adds t ht q).2; w_how⟩) ok.one (by w_how) (by w_how) (by w_how) (by w_how) with g | g
 ·have h1 := g.num
  have h2 := g.log
  have h3 := g.pt
  exact ⟨⟨g.nd, g.lo, g.n0, g.nq, g.ni, by have := g.len; w_how, by w_how, by w_how, by w_how⟩, by w_how⟩
 ·have h1 := g.num
  have h2 := g.log
  have h3 := g.pt
  exact ⟨⟨g.nd, g.lo, g.n0, g.nq, g.ni, by have := g.len; w_how, by w_how, by w_how, by w_how⟩, by w_how⟩
theorem deed_A {k wt : Int} {x : Str} {a b : EvS} {j : Nat} (h : DoneR k wt x a b) (w : WfA j a) (hx : isAdd (k, wt, x) = true → x ∈ sNames) (hj : j ≤ 20) : WfA (j + 1) b := by
 have g := done_G (W := 5) h w (fun q => ⟨hx q, wtN_le x⟩) (by w_how) (by w_how) (by w_how)
 by_cases hi : isAdd (k, wt, x) = true
 ·rw [if_pos hi] at g
  exact ⟨g.nd, g.lo, g.n0, g.nq, g.ni, by have := g.len; w_how, by have := g.num; w_how, by have := g.log; w_how, by have := g.pt; w_how⟩
 ·rw [if_neg hi] at g
  exact ⟨g.nd, g.lo, g.n0, g.nq, g.ni, by have := g.len; w_how, by have := g.num; w_how, by have := g.log; w_how, by have := g.pt; w_how⟩
section
variable {prog : Program} {w : World} {A : Around} {E : Value → Shared → Prop} {s : Shared} {L : Addr}
theorem my_truthyL {h₀ : Heap} {l : Addr} {news : Led} {vs : List Value} {n : Nat} {b : Bool} {Q : Bool → Shared → Prop} (N : News h₀ L s.heap news) (hm : (l, listOf vs.toArray n) ∈ news) (hb : decide (vs.length ≠ 0) = b) (hz : vs.length < 16000000) (h : Q b { s with toks := s.toks + 1 + 1 }) :
  wpAny (model prog w) A (truthy (.ref l)) Q E s := wpAny_truthy_list (News.isList N hm) (by rw [List.size_toArray]; w_how) (by
  have e : (!vs.toArray.isEmpty) = b := by subst hb; cases vs <;> simp
  rw [e]; exact h)
end
section
variable {prog : Program} {w : World} {A : Around} {E : Value → Shared → Prop} {s : Shared} {h₀ : Heap} {L l : Addr} {news : Led} {vs : List Value} {n : Nat} {Q : Bool → Shared → Prop}
theorem my_truthyT (N : News h₀ L s.heap news) (hm : (l, listOf vs.toArray n) ∈ news) (hb : 0 < vs.length) (hz : vs.length < 16000000) (h : Q true { s with toks := s.toks + 1 + 1 }) :
  wpAny (model prog w) A (truthy (.ref l)) Q E s := my_truthyL (b := true) N hm (decide_eq_true (by w_how)) hz h
theorem my_truthyF (N : News h₀ L s.heap news) (hm : (l, listOf vs.toArray n) ∈ news) (hb : vs.length = 0) (h : Q false { s with toks := s.toks + 1 + 1 }) :
  wpAny (model prog w) A (truthy (.ref l)) Q E s := my_truthyL (b := false) N hm (decide_eq_false (by w_how)) (by w_how) h
end


end
theorem words_P1 : True := by
 k_with "my truthy ref" => (k_here; (with_reducible show wpAny _ _ (truthy (Value.ref _)) _ _ _); k_dflt (first | (refine my_truthyF (by k_asm) (by k_mem) (by k_extra "lq") ?_) | (refine my_truthyT (by k_asm) (by k_mem) (by w_how) (by w_how) ?_) | (refine my_truthyF (by k_asm) (by k_mem) (by w_how) ?_)))
 trivial
theorem In_E10.in_E10 : True := trivial
noncomputable section
open In_E10
noncomputable def Cmds (prog : Program) (w : World) (ev lg : Addr) (hc : HoC) (acts : Str → List Act) (r : Led) : Prop :=
 (∃ ocm kvs, (hc.cm, ocm) ∈ r ∧ ocm.IsDictOf (strKind prog w) kvs ∧ (hc.cm == sysModules) = false ∧ ∀ nm ∈ sNames, ∃ z zd al nz ndt na as,
  valueAt kvs nm = some (.ref z) ∧ (z, tupO [.ref 585, .ref zd] nz) ∈ r ∧ (zd, tupO [.ref ev, .ref lg, .ref al] ndt) ∈ r ∧ (al, listOf as.toArray na) ∈ r ∧ DatAll r as ((acts nm).map tD)) ∧
 ∃ otl kvt, (hc.tl, otl) ∈ r ∧ otl.IsDictOf (strKind prog w) kvt ∧ (hc.tl == sysModules) = false ∧ valueAt kvt "run" = some (.ref 592)
theorem Cmds.mono {prog : Program} {w : World} {ev lg : Addr} {hc : HoC} {acts : Str → List Act} {r r' : Led} (h : Cmds prog w ev lg hc acts r) (hs : ∀ p ∈ r, p ∈ r') : Cmds prog w ev lg hc acts r' := by
 revert prog w ev lg hc acts r r' h hs
 intro prog w ev lg hc acts r r' h hs
 obtain ⟨⟨ocm, kvs, h1, h2, h3, h4⟩, otl, kvt, h5, h6, h7, h8⟩ := h
 refine ⟨⟨ocm, kvs, hs _ h1, h2, h3, fun nm hn => ?_⟩, otl, kvt, hs _ h5, h6, h7, h8⟩
 obtain ⟨z, zd, al, nz, ndt, na, as, k1, k2, k3, k4, k5⟩ := h4 nm hn
 exact ⟨z, zd, al, nz, ndt, na, as, k1, hs _ k2, hs _ k3, hs _ k4, k5.mono hs⟩
noncomputable def Wo (P : Params) (ev ed lg er ho hdd : Addr) (hc : HoC) (mt r : Led) (b : EvS) (errs : List Str) (add l : Led) : Prop :=
 ∃ c es ne dt spent st, EvRep (add ++ r) c b ∧ Sta ev ed lg er ho hdd c (mt ++ (add ++ r)) ∧ Off ((mt ++ r).map (·.1)) add ∧ DatAll [] es (errs.map Dat.str) ∧ l = wL P ev ed lg ho hdd hc dt spent st c b es ne (mt ++ (add ++ r))
theorem script_world {prog : Program} {w : World} {mean : ExcName → Option Value} {mg mb : Str → Option Value} {mt r : Led} {ev ed lg ho hdd ne : Nat} {hc : HoC} {dt st tw : Tok} {spent : Int} {c : EvC} {a : EvS} {nm : Str} {es : List Value} {errs : List Str} {acts : Str → List Act}
  (C : Cmds prog w ev lg hc acts r) (ok : ∀ nm ∈ sNames, ActsOk (wtN nm) (acts nm)) (hnm : nm ∈ sNames) (S : Sta ev ed lg c.er ho hdd c (mt ++ r)) (R : EvRep r c a) (wf : EvB a 10) (hes : DatAll [] es (errs.map Dat.str)) (hl : errs.length < 1000000) :
  DoesX prog w mean mg mb 181 [.ref ev, .ref ho, .str nm tw] 22 140 (wL w.params ev ed lg ho hdd hc dt spent st c a es ne (mt ++ r))
   (fun v l => v = .none ∧ ∃ b errs' add, RunR (acts nm) nm a errs b errs' ∧ Wo w.params ev ed lg c.er ho hdd hc mt r b errs' add l) (fun _ _ => False) := by
 revert prog w mean mg mb mt r ev ed lg ho hdd ne hc dt st tw spent c a nm es errs acts C ok hnm S R wf hes hl
 intro prog w mean mg mb mt r ev ed lg ho hdd ne hc dt st tw spent c a nm es errs acts C ok hnm S R wf hes hl
 obtain ⟨⟨ocm, kvs, h1, h2, h3, h4⟩, otl, kvt, h5, h6, h7, h8⟩ := C
 obtain ⟨z, zd, al, nz, ndt, na, as, k1, k2, k3, k4, k5⟩ := h4 nm hnm
 have o := ok nm hnm
 have o1 := o.len
 have k := script_does (prog := prog) (w := w) (mean := mean) (mg := mg) (mb := mb) (mt := mt) (r := r) (ne := ne) (hc := hc) (dt := dt) (st := st) (tw := tw) (spent := spent) (n := 0) S R (wf.less (by w_how)) (by rw [hes.length, List.length_map]; exact hl) h1 h2 h3 k1 k2 h5 h6 h7 h8 k3 k4 k5 (by w_how) o.code
 refine k.conseq (fun p hp => hp) ?_ (fun _ _ h => h.elim)
 rintro v l ⟨rfl, o, add, c', b, es', ne', dt', spent', st', ⟨g1, g2, g3, g4, g5, g6⟩, hE, rfl⟩
 refine ⟨_, fun p hp => hp, rfl, b, _, add, ⟨o, g1, rfl⟩, c', es', ne', dt', spent', st', g3, g4, g5, ?_, rfl⟩
 cases o with
 |none => rw [show es' = es from hE]; simpa using hes
 |some kx =>
  obtain ⟨k, x⟩ := kx
  obtain ⟨t, rfl⟩ := hE
  first | rw [List.concat_eq_append, List.map_append] | rw [Array.toList_push, List.map_append]
  exact hes.append (.one (.str _ _))
theorem my_tail {prog : Program} {w : World} {A : Around} {E : Value → Shared → Prop} {s : Shared} {h₀ : Heap} {L l : Addr} {m : Str → Option Value} {news : Led} {vs : List Value} {n : Nat} {u : Tok} {value slice : PySem.Expr} {Q : Value → Shared → Prop}
  (F : Fr h₀ L s.heap m) (N : News h₀ L s.heap news) (hm : (l, listOf vs.toArray n) ∈ news)
  (h : ∀ D h', Fr h₀ L h' m → News h₀ L h' ((D, listOf vs.tail.toArray 0) :: news) → (∀ p ∈ news, p.1 < D) → Q (.ref D) { s with heap := h' })
  (hs : subscripted slice false (.ref l) (.ref s.heap.objs.size) = operate [.ref s.heap.objs.size, .ref l] (getItem (.ref l) (.ref s.heap.objs.size))) (hz : vs.length < 16000000) :
  wpAny (model prog w) A (subscriptTail value slice (.ref l) (.ref s.heap.objs.size)) Q E { s with heap := s.heap.push { cls := .type "slice", data := .fields #[.int 1 u, .none, .none] } } := by
 refine kba_turn (value' := PySem.Expr.Name (PySem.Str.ofString "_") ⟨0, 0, 0, 0⟩) (fun _ => rfl) ?_
 refine kms_slice_lit F N (News.isList N hm) (IsPart.int _ _) IsPart.none ?_ h hs (fun _ => rfl) (by rw [List.size_toArray, sizeLine_eq]; w_how)
 show kms_pick vs (some 1) none = vs.tail
 show (vs.drop (min 1 vs.length)).take (vs.length - min 1 vs.length) = vs.tail
 rw [List.take_of_length_le (by rw [List.length_drop]; w_how), kmk_drop_min, List.drop_one]
theorem Less.runs {nm : Str} {a a' b : EvS} {er er' : List Str} {l : List Act} {k : Nat} (h : RunR l nm a' er b er') (ok : ActsOk (wtN nm) l) (w : WfA k a) (hk : k ≤ 20) (e : Less nm a a') : WfA k b ∧ pot b < pot a := by
 obtain ⟨o, h, _⟩ := h
 exact run_G h ok w hk e
theorem Sta.ed {ev ed lg er ho hdd : Addr} {c : EvC} {t : Led} (h : Sta ev ed lg er ho hdd c t) : Apart ev ed ∧ Apart lg ed ∧ Apart c.er ed ∧ Apart ho ed ∧ Apart hdd ed ∧ Apart c.q ed ∧ Apart c.i ed := by
 exact ⟨nd_ne h.nd 0 1 rfl, nd_ne h.nd 2 1 rfl, by rw [h.ce]; exact nd_ne h.nd 3 1 rfl, nd_ne h.nd 4 1 rfl, nd_ne h.nd 5 1 rfl, nd_ne h.nd 6 1 rfl, nd_ne h.nd 7 1 rfl⟩
theorem Sta.q {ev ed lg er ho hdd : Addr} {c c' : EvC} {t : Led} (h : Sta ev ed lg er ho hdd c t) (h1 : c'.er = c.er) (h2 : c'.i = c.i) (h3 : c'.q ∉ [ev, ed, lg, er, ho, hdd, c.i]) (h4 : ∀ p ∈ t, p.1 ≠ c'.q) : Sta ev ed lg er ho hdd c' t := by
 have ne := h.ne
 have to := fun (p : Addr × Obj) (hp : p ∈ t) => h.to hp
 refine ⟨h1.trans h.ce, ?_, fun p hp => ?_⟩
 all_goals simp only [List.nodup_cons, List.mem_cons, List.not_mem_nil, or_false, not_or, List.nodup_nil, and_true, not_false_eq_true] at h3 ⊢
 ·grind
 ·have := h4 p hp
  have := to p hp
  grind
theorem Sta.i {ev ed lg er ho hdd : Addr} {c c' : EvC} {t : Led} (h : Sta ev ed lg er ho hdd c t) (h1 : c'.er = c.er) (h2 : c'.q = c.q) (h3 : c'.i ∉ [ev, ed, lg, er, ho, hdd, c.q]) (h4 : ∀ p ∈ t, p.1 ≠ c'.i) : Sta ev ed lg er ho hdd c' t := by
 have ne := h.ne
 have to := fun (p : Addr × Obj) (hp : p ∈ t) => h.to hp
 refine ⟨h1.trans h.ce, ?_, fun p hp => ?_⟩
 all_goals simp only [List.nodup_cons, List.mem_cons, List.not_mem_nil, or_false, not_or, List.nodup_nil, and_true, not_false_eq_true] at h3 ⊢
 ·grind
 ·have := h4 p hp
  have := to p hp
  grind
theorem EvB.tailq {a : EvS} {n : Nat} {t : Int × Int × Str} {q' : List (Int × Int × Str)} (h : EvB a n) (e : a.q = t :: q') : EvB { a with q := q' } n := by
 have hs : ((q'.map (·.2.1)) ++ a.i.map (·.1)).Sublist (a.q.map (·.2.1) ++ a.i.map (·.1)) := by rw [e]; exact (List.sublist_cons_self ..)
 exact evB_of (h.nd.sublist hs) (fun m hm => h.nums m (hs.subset hm)) h.n0 h.n1 (by have := h.few; rw [e, List.length_cons] at this; dsimp only; w_how) h.log
theorem EvB.taili {a : EvS} {n : Nat} {t : Int × Str} {i' : List (Int × Str)} (h : EvB a n) (e : a.i = t :: i') : EvB { a with i := i' } n := by
 have hs : ((a.q.map (·.2.1)) ++ i'.map (·.1)).Sublist (a.q.map (·.2.1) ++ a.i.map (·.1)) := by rw [e]; exact (List.Sublist.refl _).append (List.sublist_cons_self ..)
 exact evB_of (h.nd.sublist hs) (fun m hm => h.nums m (hs.subset hm)) h.n0 h.n1 (by have := h.few; rw [e, List.length_cons] at this; dsimp only; w_how) h.log
namespace run_timer_h
noncomputable abbrev T9 : Type := Program × World × (ExcName → Option Value) × (Str → Option Value) × (Str → Option Value) × Led × Led × Nat × Nat × Nat × Nat × Nat × Nat × HoC × Tok × Tok × Int × EvC × EvS × Str × Int × Int × List (Int × Int × Str) × List Value × List Str × (Str → List Act) × Cx
noncomputable def S9 (prog : Program) (w : World) (mean : ExcName → Option Value) (mg : Str → Option Value) (mb : Str → Option Value) (mt : Led) (r : Led) (ev : Nat) (ed : Nat) (lg : Nat) (ho : Nat) (hdd : Nat) (ne : Nat) (hc : HoC) (dt : Tok) (st : Tok) (spent : Int) (c : EvC) (a : EvS) (nm : Str) (ti : Int) (num : Int) (q' : List (Int × Int × Str)) (es : List Value) (errs : List Str) (acts : Str → List Act) (x9 : Cx) : Prop :=
 ∀ (C : Cmds prog w ev lg hc acts r) (ok : ∀ nm ∈ sNames, ActsOk (wtN nm) (acts nm)) (hnm : nm ∈ sNames) (S : Sta ev ed lg c.er ho hdd c (mt ++ r)) (R : EvRep r c a) (hq : a.q = (ti, num, nm) :: q') (wf : EvB a 10) (hes : DatAll [] es (errs.map Dat.str)) (hl : errs.length < 1000000), DoesX.at prog w mean mg mb 195 [.ref ev, .ref ho] 24 150 (wL w.params ev ed lg ho hdd hc dt spent st c a es ne (mt ++ r))
   (fun v l => v = .none ∧ ∃ b errs' add, RunR (acts nm) nm { a with q := q' } errs b errs' ∧ Wo w.params ev ed lg c.er ho hdd hc mt r b errs' add l) (fun _ _ => False) x9.1 x9.2.1 x9.2.2.1 x9.2.2.2.1 x9.2.2.2.2.1 x9.2.2.2.2.2.1 x9.2.2.2.2.2.2.1 x9.2.2.2.2.2.2.2.2.1 x9.2.2.2.2.2.2.2.2.2.1 x9.2.2.2.2.2.2.2.2.2.2.1 x9.2.2.2.2.2.2.2.2.2.2.2.1 x9.2.2.2.2.2.2.2.2.2.2.2.2.1 x9.2.2.2.2.2.2.2.2.2.2.2.2.2.1 x9.2.2.2.2.2.2.2.2.2.2.2.2.2.2.1 x9.2.2.2.2.2.2.2.2.2.2.2.2.2.2.2.1 x9.2.2.2.2.2.2.2.2.2.2.2.2.2.2.2.2
noncomputable def P9 : T9 → Prop := cur fun prog => cur fun w => cur fun mean => cur fun mg => cur fun mb => cur fun mt => cur fun r => cur fun ev => cur fun ed => cur fun lg => cur fun ho => cur fun hdd => cur fun ne => cur fun hc => cur fun dt => cur fun st => cur fun spent => cur fun c => cur fun a => cur fun nm => cur fun ti => cur fun num => cur fun q' => cur fun es => cur fun errs => cur fun acts => fun x9 => S9 prog w mean mg mb mt r ev ed lg ho hdd ne hc dt st spent c a nm ti num q' es errs acts x9
theorem ex9 : ∃ x, P9 x → ∀ y, P9 y := drinker P9 (PySem.Challenge.rw_np0139_01.prog, w0, default, default, default, default, default, default, default, default, default, default, default, (⟨fun _ => 0, 0, 0, 0, 0, 0, 0, 0⟩ : HoC), default, default, default, (⟨0, 0, 0, fun _ => 0, 0, 0, 0, 0, 0, [], [], []⟩ : EvC), (⟨0, 0, [], [], []⟩ : EvS), default, default, default, default, default, default, default, cx0)
@[irreducible] def c9 : T9 := Classical.choose ex9
@[irreducible] def prog := c9.1
@[irreducible] def w := c9.2.1
@[irreducible] def mean := c9.2.2.1
@[irreducible] def mg := c9.2.2.2.1
@[irreducible] def mb := c9.2.2.2.2.1
@[irreducible] def mt := c9.2.2.2.2.2.1
@[irreducible] def r := c9.2.2.2.2.2.2.1
@[irreducible] def ev := c9.2.2.2.2.2.2.2.1
@[irreducible] def ed := c9.2.2.2.2.2.2.2.2.1
@[irreducible] def lg := c9.2.2.2.2.2.2.2.2.2.1
@[irreducible] def ho := c9.2.2.2.2.2.2.2.2.2.2.1
@[irreducible] def hdd := c9.2.2.2.2.2.2.2.2.2.2.2.1
@[irreducible] def ne := c9.2.2.2.2.2.2.2.2.2.2.2.2.1
@[irreducible] def hc := c9.2.2.2.2.2.2.2.2.2.2.2.2.2.1
@[irreducible] def dt := c9.2.2.2.2.2.2.2.2.2.2.2.2.2.2.1
@[irreducible] def st := c9.2.2.2.2.2.2.2.2.2.2.2.2.2.2.2.1
@[irreducible] def spent := c9.2.2.2.2.2.2.2.2.2.2.2.2.2.2.2.2.1
@[irreducible] def c := c9.2.2.2.2.2.2.2.2.2.2.2.2.2.2.2.2.2.1
@[irreducible] def a := c9.2.2.2.2.2.2.2.2.2.2.2.2.2.2.2.2.2.2.1
@[irreducible] def nm := c9.2.2.2.2.2.2.2.2.2.2.2.2.2.2.2.2.2.2.2.1
@[irreducible] def ti := c9.2.2.2.2.2.2.2.2.2.2.2.2.2.2.2.2.2.2.2.2.1
@[irreducible] def num := c9.2.2.2.2.2.2.2.2.2.2.2.2.2.2.2.2.2.2.2.2.2.1
@[irreducible] def q' := c9.2.2.2.2.2.2.2.2.2.2.2.2.2.2.2.2.2.2.2.2.2.2.1
@[irreducible] def es := c9.2.2.2.2.2.2.2.2.2.2.2.2.2.2.2.2.2.2.2.2.2.2.2.1
@[irreducible] def errs := c9.2.2.2.2.2.2.2.2.2.2.2.2.2.2.2.2.2.2.2.2.2.2.2.2.1
@[irreducible] def acts := c9.2.2.2.2.2.2.2.2.2.2.2.2.2.2.2.2.2.2.2.2.2.2.2.2.2.1
@[irreducible] def x9 := c9.2.2.2.2.2.2.2.2.2.2.2.2.2.2.2.2.2.2.2.2.2.2.2.2.2.2
abbrev h₀ := x9.2.2.2.2.2.2.2.2.2.2.2.1
theorem core9 : S9 prog w mean mg mb mt r ev ed lg ho hdd ne hc dt st spent c a nm ti num q' es errs acts x9 := by
 refine wr_z (by
 intro C ok hnm S R hq wf hes hl B F XB TB DK N hk hdp hu hret hexc
 have X : (K9 w.params).In h₀ := XB.keeps B.stays
 have T : Top view9 lse mean mg mb h₀ := TB.keeps B.stays
 f_tup
 (refine arr ?_ (S.ed); km_mul w1; km_mul w8; km_mul w9; km_mul w10; km_mul w11; km_mul w12; intro w13)
 have to := fun (p : Addr × Obj) (hp : p ∈ mt ++ r) => S.to hp
 f_tup
 first | (refine arr ?_ (id R); km_mul D; km_mul D2; intro D3) | (obtain ⟨D, D2, D3⟩ := id R)
 have hfew := wf.few
 have hlq : c.qs.length = a.q.length := by rw [D.length, List.length_map]
 have hlq2 : a.q.length = q'.length + 1 := by rw [hq, List.length_cons]
 have e0 : a.q[Int.toNat 0]? = some (ti, num, nm) := by rw [hq]; rfl
 have hsub : ∀ p ∈ r, p ∈ mt ++ r := fun p hp => List.mem_append_right _ hp
 have o1 : ∀ p ∈ mt, p.1 ≠ ed := fun p hp => (to p (List.mem_append_left _ hp)).2.1
 have o2 : ∀ p ∈ r, p.1 ≠ ed := fun p hp => (to p (List.mem_append_right _ hp)).2.1
 simp only [wL, hoL, evL] at N
 refine wpAny_call ?_
 k_dflt walk_at "enterX"
 k_with "call ref" => ((fail_if_success (fail_if_success (have h9 := in_E10))); ((refine Stop.out ?_)))
 k_with "subscriptTail" => ((fail_if_success (fail_if_success (have h9 := in_E10))); (((with_reducible show wpAny _ _ (subscriptTail _ _ (Value.ref _) (Value.ref _)) _ _ _); refine Stop.out ?_)))
 f_tup
 k_steps
 refine Stop.mk ?_
 f_tup
 rename Fr _ _ _ _ => F9
 rename News _ _ _ _ => N9
 k_dflt (refine' my_tail F9 N9 ?hm ?_ ?hs ?hz)
 case hm => k_mem
 case hs => with_unfolding_all rfl
 case hz => w_how
 intro D9 h9 F8 N8 l1
 have l2 := l1
 k_lt l2
 clear F9 N9
 f_tup
 k_steps
 refine Stop.mk ?_
 f_tup
 rename Fr _ _ _ _ => F9
 rename News _ _ _ _ => N9
 have S' : Sta ev ed lg c.er ho hdd { c with q := D9, qs := c.qs.tail, nq := 0 } (mt ++ r) := by
  refine S.q (c' := { c with q := D9, qs := c.qs.tail, nq := 0 }) rfl rfl ?_ ?_
  ·simp only [List.mem_cons, List.not_mem_nil, or_false, not_or]
   refine ⟨?_, ?_, ?_, ?_, ?_, ?_, ?_⟩ <;> k_ne
  ·k_all
 have R' : EvRep r { c with q := D9, qs := c.qs.tail, nq := 0 } { a with q := q' } := by
  refine ⟨?_, D2, D3⟩
  rw [hq] at D
  cases hqs : c.qs with
  |nil => rw [hqs] at hlq; simp at hlq; w_how
  |cons v vs =>
   rw [hqs] at D
   cases D with
   |cons _ D => exact D
 refine DoesX.use B' F9 XB TB D' (fun p hp => N9 p ?sub) rfl (script_world (nm := nm) (dt := dt) (st := st) (spent := spent) (ne := ne) (c := { c with q := D9, qs := c.qs.tail, nq := 0 }) (a := { a with q := q' }) C ok hnm S' R' (wf.tailq hq) hes hl) (by ktr_room) (by ktr_units) ?_ ?_
 case sub =>
  revert p hp
  dsimp only [wL, hoL, evL]
  kqd_sub
 ·intro g2 v h2 tk2 news2 t2 F2 N2 K2 X2 T2 D2
  (k_extra "st"; k_extra "sr"; km_mul b; km_mul errs'; km_mul add; km_mul hR; intro hW)
  f_tup
  clear F9 N9
  f_tup
  k_steps
  exact hret _ _ _ _ news2 (by assumption) (by assumption) (by assumption) (by assumption) (by assumption) (by assumption) (by assumption) ⟨rfl, b, errs', add, hR, hW⟩
 ·intro _ _ _ _ _ _ _ _ _ _ _ _ h
  exact h.elim
 ) ?_
 intro q f
 simpa using f (default : (by exact Fin 1))

theorem ok9 : ∀ y, P9 y := Classical.choose_spec ex9 (by with_unfolding_all exact core9)
end run_timer_h
theorem run_timer_does {prog : Program} {w : World} {mean : ExcName → Option Value} {mg mb : Str → Option Value} {mt r : Led} {ev ed lg ho hdd ne : Nat} {hc : HoC} {dt st : Tok} {spent : Int} {c : EvC} {a : EvS} {nm : Str} {ti num : Int} {q' : List (Int × Int × Str)} {es : List Value} {errs : List Str} {acts : Str → List Act}
  (C : Cmds prog w ev lg hc acts r) (ok : ∀ nm ∈ sNames, ActsOk (wtN nm) (acts nm)) (hnm : nm ∈ sNames) (S : Sta ev ed lg c.er ho hdd c (mt ++ r)) (R : EvRep r c a) (hq : a.q = (ti, num, nm) :: q') (wf : EvB a 10) (hes : DatAll [] es (errs.map Dat.str)) (hl : errs.length < 1000000) :
  DoesX prog w mean mg mb 195 [.ref ev, .ref ho] 24 150 (wL w.params ev ed lg ho hdd hc dt spent st c a es ne (mt ++ r))
   (fun v l => v = .none ∧ ∃ b errs' add, RunR (acts nm) nm { a with q := q' } errs b errs' ∧ Wo w.params ev ed lg c.er ho hdd hc mt r b errs' add l) (fun _ _ => False) := by
 intros dp un gd cn cs a' ccd cl outer A₀ base h₀ L m s Q E B9 F9 XB9 TB9 D9 N9 k9 hcl9
 subst hcl9
 exact run_timer_h.ok9 (prog, w, mean, mg, mb, mt, r, ev, ed, lg, ho, hdd, ne, hc, dt, st, spent, c, a, nm, ti, num, q', es, errs, acts, (dp, un, gd, cn, cs, a', ccd, [], outer, A₀, base, h₀, L, m, s, Q, E)) C ok hnm S R hq wf hes hl B9 F9 XB9 TB9 D9 N9 k9

end
theorem In_E11.in_E11 : True := trivial
noncomputable section
open In_E11
section
variable {prog : Program} {w : World} {A A₁ : Around} {E : Value → Shared → Prop} {Q : Flow → Shared → Prop} {s : Shared} {env : Env} {base g : Heap} {out : List Env} {L : Addr} {mean : ExcName → Option Value} {mg mb : Str → Option Value}
noncomputable def TurnStep (w : World) (mean : ExcName → Option Value) (mg mb : Str → Option Value) (A : Around) (base g : Heap) (out : List Env) (L : Addr) (x : Str) (m : Str → Option Value) (s : Shared) (J : Nat → Led → Prop) (n : Nat) (f : Flow) (s₃ : Shared) : Prop :=
 f = .next ∧ ∃ g' h' tk m₂ news₂ n', s₃ = { s with heap := h', toks := tk } ∧ KtsTurn (frs out) g g' ∧ Fr g' L h' m₂ ∧ News g' L h' news₂ ∧ Below A base out g' ∧ (K9 w.params).In g' ∧ Top view9 lse mean mg mb g' ∧ KtsDicts (frs out) g' ∧
  (∀ y, y ≠ x → m₂ y = m y) ∧ n' < n ∧ J n' news₂
theorem While_turn1 {test : Expr} {body : List Stmt} {pos : Pos} {x : Str} {m : Str → Option Value} {news : Led} (J : Nat → Led → Prop) {n₀ : Nat}
  (F : Fr g L s.heap m) (N : News g L s.heap news) (K : Below A base out g) (X : (K9 w.params).In g) (T : Top view9 lse mean mg mb g) (D : KtsDicts (frs out) g) (hJ : J n₀ news)
  (turn : ∀ n u news₁ h₁ tk₁ g₁, KtsTurn (frs out) g g₁ → Fr g₁ L h₁ (fun y => if y = x then u else m y) → News g₁ L h₁ news₁ → Below A base out g₁ → (K9 w.params).In g₁ → Top view9 lse mean mg mb g₁ → KtsDicts (frs out) g₁ → J n news₁ →
   wpAny (model prog w) A₁ (isTrue test env (eval test env)) (fun b s₂ =>
    if b = true then wpAny (model prog w) A₁ (execs body env) (TurnStep w mean mg mb A base g out L x m s J n) E s₂ else Q .next s₂) E { s with heap := h₁, toks := tk₁ })
  (hE : PassesOwn (model prog w) A₁ env E) :
  wpAny (model prog w) A₁ (exec (.While test body [] pos) env) Q E s := by
 have norm : ∀ {m' : Str → Option Value}, (∀ y, y ≠ x → m' y = m y) → m' = fun y => if y = x then m' x else m y := by
  intros m' h
  funext y
  by_cases hy : y = x
  ·subst hy; simp
  ·simp only [if_neg hy]; exact h y hy
 refine wpAny_While (codeAny_whileLoop (fun n s' => ∃ g₁ h₁ tk₁ m₁ news₁, s' = { s with heap := h₁, toks := tk₁ } ∧ KtsTurn (frs out) g g₁ ∧ Fr g₁ L h₁ m₁ ∧ News g₁ L h₁ news₁ ∧ Below A base out g₁ ∧ (K9 w.params).In g₁ ∧ Top view9 lse mean mg mb g₁ ∧ KtsDicts (frs out) g₁ ∧ (∀ y, y ≠ x → m₁ y = m y) ∧ J n news₁)
  ?_ n₀ ⟨g, s.heap, s.toks, m, news, rfl, KtsTurn.refl, F, N, K, X, T, D, fun _ _ => rfl, hJ⟩)
 rintro n s' ⟨g₁, h₁, tk₁, m₁, news₁, rfl, t₁, F₁, N₁, K₁, X₁, T₁, D₁, e₁, J₁⟩
 rw [norm e₁] at F₁
 refine wpAny_mono (turn n _ news₁ h₁ tk₁ g₁ t₁ F₁ N₁ K₁ X₁ T₁ D₁ J₁) (fun b s₂ h₂ => ?_) hE
 cases b with
 |false =>
  simp only [Bool.false_eq_true, if_false] at h₂ ⊢
  exact wpAny_execs_nil h₂
 |true =>
  simp only [if_true] at h₂ ⊢
  refine wpAny_mono h₂ (fun f s₃ h₃ => ?_) hE
  obtain ⟨rfl, g', h', tk, m₂, news₂, n', rfl, t₂, F₂, N₂, K₂, X₂, T₂, D₂, e₂, hn, J₂⟩ := h₃
  exact ⟨n', hn, g', h', tk, m₂, news₂, rfl, t₂, F₂, N₂, K₂, X₂, T₂, D₂, e₂, J₂⟩
end
inductive IdleR (acts : Str → List Act) (last : Int) : EvS → List Str → EvS → List Str → Prop
 |stop {a : EvS} {er : List Str} : (∀ m x t, a.i = (m, x) :: t → last ≤ m) → IdleR acts last a er a er
 |step {a b c : EvS} {er er' er'' : List Str} {m : Int} {x : Str} {i' : List (Int × Str)} : a.i = (m, x) :: i' → m < last → RunR (acts x) x { a with i := i' } er b er' → IdleR acts last b er' c er'' → IdleR acts last a er c er''
theorem ActsR.log {l : List Act} {a b : EvS} {o : Option (Int × Str)} (h : ActsR l a b o) : a.log.length ≤ b.log.length := by
 induction h with
 |nil => exact Nat.le_refl _
 |stop => exact Nat.le_refl _
 |step _ h _ ih =>
  refine Nat.le_trans ?_ ih
  rcases h with ⟨_, c, _, _, _, rfl⟩ | ⟨_, rfl⟩ | ⟨_, tgt, _, rfl⟩ | ⟨_, _, _, rfl⟩ <;> simp
theorem RunR.errs {l : List Act} {nm : Str} {a b : EvS} {er er' : List Str} (h : RunR l nm a er b er') (hl : er.length ≤ a.log.length) : er'.length ≤ b.log.length := by
 obtain ⟨o, h, rfl⟩ := h
 have := h.log
 simp only [List.length_append, List.length_cons, List.length_nil] at this
 cases o <;> simp only [List.length_append, List.length_cons, List.length_nil] <;> w_how
namespace run_idle_h
noncomputable abbrev T9 : Type := Program × World × (ExcName → Option Value) × (Str → Option Value) × (Str → Option Value) × Led × Led × Nat × Nat × Nat × Nat × Nat × Nat × Nat × HoC × Tok × Tok × Int × EvC × EvS × List Value × List Str × (Str → List Act) × Cx
noncomputable def S9 (prog : Program) (w : World) (mean : ExcName → Option Value) (mg : Str → Option Value) (mb : Str → Option Value) (mt : Led) (r : Led) (ev : Nat) (ed : Nat) (lg : Nat) (ho : Nat) (hdd : Nat) (ne : Nat) (j : Nat) (hc : HoC) (dt : Tok) (st : Tok) (spent : Int) (c : EvC) (a : EvS) (es : List Value) (errs : List Str) (acts : Str → List Act) (x9 : Cx) : Prop :=
 ∀ (C : Cmds prog w ev lg hc acts r) (ok : ∀ nm ∈ sNames, ActsOk (wtN nm) (acts nm)) (S : Sta ev ed lg c.er ho hdd c (mt ++ r)) (R : EvRep r c a) (wf : WfA j a) (hj : j ≤ 20) (hes : DatAll [] es (errs.map Dat.str)) (hl : errs.length ≤ a.log.length), DoesX.at prog w mean mg mb 188 [.ref ev, .ref ho] 24 150 (wL w.params ev ed lg ho hdd hc dt spent st c a es ne (mt ++ r))
   (fun v l => v = .none ∧ ∃ b errs' add, IdleR acts a.num a errs b errs' ∧ Wo w.params ev ed lg c.er ho hdd hc mt r b errs' add l) (fun _ _ => False) x9.1 x9.2.1 x9.2.2.1 x9.2.2.2.1 x9.2.2.2.2.1 x9.2.2.2.2.2.1 x9.2.2.2.2.2.2.1 x9.2.2.2.2.2.2.2.2.1 x9.2.2.2.2.2.2.2.2.2.1 x9.2.2.2.2.2.2.2.2.2.2.1 x9.2.2.2.2.2.2.2.2.2.2.2.1 x9.2.2.2.2.2.2.2.2.2.2.2.2.1 x9.2.2.2.2.2.2.2.2.2.2.2.2.2.1 x9.2.2.2.2.2.2.2.2.2.2.2.2.2.2.1 x9.2.2.2.2.2.2.2.2.2.2.2.2.2.2.2.1 x9.2.2.2.2.2.2.2.2.2.2.2.2.2.2.2.2
noncomputable def P9 : T9 → Prop := cur fun prog => cur fun w => cur fun mean => cur fun mg => cur fun mb => cur fun mt => cur fun r => cur fun ev => cur fun ed => cur fun lg => cur fun ho => cur fun hdd => cur fun ne => cur fun j => cur fun hc => cur fun dt => cur fun st => cur fun spent => cur fun c => cur fun a => cur fun es => cur fun errs => cur fun acts => fun x9 => S9 prog w mean mg mb mt r ev ed lg ho hdd ne j hc dt st spent c a es errs acts x9
theorem ex9 : ∃ x, P9 x → ∀ y, P9 y := drinker P9 (PySem.Challenge.rw_np0139_01.prog, w0, default, default, default, default, default, default, default, default, default, default, default, default, (⟨fun _ => 0, 0, 0, 0, 0, 0, 0, 0⟩ : HoC), default, default, default, (⟨0, 0, 0, fun _ => 0, 0, 0, 0, 0, 0, [], [], []⟩ : EvC), (⟨0, 0, [], [], []⟩ : EvS), default, default, default, cx0)
@[irreducible] def c9 : T9 := Classical.choose ex9
@[irreducible] def prog := c9.1
@[irreducible] def w := c9.2.1
@[irreducible] def mean := c9.2.2.1
@[irreducible] def mg := c9.2.2.2.1
@[irreducible] def mb := c9.2.2.2.2.1
@[irreducible] def mt := c9.2.2.2.2.2.1
@[irreducible] def r := c9.2.2.2.2.2.2.1
@[irreducible] def ev := c9.2.2.2.2.2.2.2.1
@[irreducible] def ed := c9.2.2.2.2.2.2.2.2.1
@[irreducible] def lg := c9.2.2.2.2.2.2.2.2.2.1
@[irreducible] def ho := c9.2.2.2.2.2.2.2.2.2.2.1
@[irreducible] def hdd := c9.2.2.2.2.2.2.2.2.2.2.2.1
@[irreducible] def ne := c9.2.2.2.2.2.2.2.2.2.2.2.2.1
@[irreducible] def j := c9.2.2.2.2.2.2.2.2.2.2.2.2.2.1
@[irreducible] def hc := c9.2.2.2.2.2.2.2.2.2.2.2.2.2.2.1
@[irreducible] def dt := c9.2.2.2.2.2.2.2.2.2.2.2.2.2.2.2.1
@[irreducible] def st := c9.2.2.2.2.2.2.2.2.2.2.2.2.2.2.2.2.1
@[irreducible] def spent := c9.2.2.2.2.2.2.2.2.2.2.2.2.2.2.2.2.2.1
@[irreducible] def c := c9.2.2.2.2.2.2.2.2.2.2.2.2.2.2.2.2.2.2.1
@[irreducible] def a := c9.2.2.2.2.2.2.2.2.2.2.2.2.2.2.2.2.2.2.2.1
@[irreducible] def es := c9.2.2.2.2.2.2.2.2.2.2.2.2.2.2.2.2.2.2.2.2.1
@[irreducible] def errs := c9.2.2.2.2.2.2.2.2.2.2.2.2.2.2.2.2.2.2.2.2.2.1
@[irreducible] def acts := c9.2.2.2.2.2.2.2.2.2.2.2.2.2.2.2.2.2.2.2.2.2.2.1
@[irreducible] def x9 := c9.2.2.2.2.2.2.2.2.2.2.2.2.2.2.2.2.2.2.2.2.2.2.2
abbrev cn := x9.2.2.2.1
abbrev cs := x9.2.2.2.2.1
abbrev a' := x9.2.2.2.2.2.1
abbrev ccd := x9.2.2.2.2.2.2.1
abbrev outer := x9.2.2.2.2.2.2.2.2.1
abbrev h₀ := x9.2.2.2.2.2.2.2.2.2.2.2.1
abbrev L := x9.2.2.2.2.2.2.2.2.2.2.2.2.1
abbrev m := x9.2.2.2.2.2.2.2.2.2.2.2.2.2.1
theorem core9 : S9 prog w mean mg mb mt r ev ed lg ho hdd ne j hc dt st spent c a es errs acts x9 := by
 refine wr_z (by
 intro C ok S R wf hj hes hl B F XB TB DK N hk hdp hu hret hexc
 have X : (K9 w.params).In h₀ := XB.keeps B.stays
 have T : Top view9 lse mean mg mb h₀ := TB.keeps B.stays
 have N0 := N
 simp only [wL, hoL, evL] at N
 refine wpAny_call ?_
 k_dflt walk_at "enterX"
 k_with "exec While BoolOp cons nil" => ((fail_if_success (fail_if_success (have h9 := in_E11))); ((refine Stop.out ?_)))
 f_tup
 k_steps
 refine Stop.mk ?_
 f_tup
 rename Fr _ _ _ _ => F9
 rename News _ _ _ _ => N9
 with_unfolding_all refine While_turn1 (out := envOf cn cs L a' ccd :: outer) (x := Str.ofString "script") (fun n l => ∃ b errs' add, n = pot b ∧ WfA j b ∧ errs'.length ≤ b.log.length ∧ (∀ d er'', IdleR acts a.num b errs' d er'' → IdleR acts a.num a errs d er'') ∧ Wo w.params ev ed lg c.er ho hdd hc mt r b errs' add l) F9 N9 B' X' T' D' (n₀ := pot a) ⟨a, errs, [], rfl, wf, hl, fun _ _ h => h, c, es, ne, dt, spent, st, R, S, off_nil, hes, rfl⟩ ?_ ?hE
 case hE => first | with_unfolding_all exact PySem.PassesOwn.leaving | (refine po_eq (by assumption) ?_; with_unfolding_all exact PySem.PassesOwn.leaving)
 clear F9 N9
 intro n u news₁ h₁ tk₁ g₁ t₁ F₁ N₁ K₁ X₁ T₁ D₁
 (km_mul b; km_mul errs'; km_mul add; k_extra "st"; k_extra "sr"; km_mul wfb; km_mul hlb; km_mul hI; km_mul cb; km_mul eb; km_mul nb; km_mul dtb; km_mul spb; km_mul stb; km_mul Rb; km_mul Sb; km_mul Ob; km_mul hesb; k_extra "sr")
 f_tup
 have Sb2 : Sta ev ed lg cb.er ho hdd cb (mt ++ (add ++ r)) := by rw [Sb.ce]; exact Sb
 f_tup
 (refine arr ?_ (Sb2.ed); km_mul w1; km_mul w8; km_mul w9; km_mul w10; km_mul w11; km_mul w12; intro w13)
 have to := fun (p : Addr × Obj) (hp : p ∈ mt ++ (add ++ r)) => Sb2.to hp
 f_tup
 first | (refine arr ?_ (id Rb); km_mul D; km_mul D2; intro D3) | (obtain ⟨D, D2, D3⟩ := id Rb)
 have hli : cb.is.length = b.i.length := by rw [D2.length, List.length_map]
 have hsub : ∀ p ∈ add ++ r, p ∈ mt ++ (add ++ r) := fun p hp => List.mem_append_right _ hp
 have o1 : ∀ p ∈ mt, p.1 ≠ ed := fun p hp => (to p (List.mem_append_left _ hp)).2.1
 have o2 : ∀ p ∈ add, p.1 ≠ ed := fun p hp => (to p (List.mem_append_right _ (List.mem_append_left _ hp))).2.1
 have o3 : ∀ p ∈ r, p.1 ≠ ed := fun p hp => (to p (List.mem_append_right _ (List.mem_append_right _ hp))).2.1
 have wfl := wfb.len
 have N1 := N₁
 simp only [wL, hoL, evL] at N₁
 f_tup
 focus (rcases list_or2 b.i with o9_93 | o9_93; (focus (revert o9_93; intro hi)); rotate_left; (focus (revert o9_93; km_mul m1; km_mul x1; km_mul i'; intro hi)); rotate_left)
 ·skip
  have hl0 : cb.is.length = 0 := by rw [hli, hi]; rfl
  f_tup
  k_steps
  exact hret _ _ _ _ _ (by assumption) (by assumption) (by assumption) (by assumption) (by assumption) (by assumption) (by assumption) ⟨rfl, b, errs', add, hI _ _ (.stop fun m x t e => by rw [hi] at e; cases e), cb, eb, nb, dtb, spb, stb, Rb, Sb, Ob, hesb, rfl⟩
 ·skip
  have hl0 : b.i.length = i'.length + 1 := by rw [hi, List.length_cons]
  have e0 : b.i[Int.toNat 0]? = some (m1, x1) := by rw [hi]; rfl
  k_with "call ref" => ((fail_if_success (fail_if_success (have h9 := in_E11))); ((refine Stop.out ?_)))
  k_with "subscriptTail" => ((fail_if_success (fail_if_success (have h9 := in_E11))); (((with_reducible show wpAny _ _ (subscriptTail _ _ (Value.ref _) (Value.ref _)) _ _ _); refine Stop.out ?_)))
  f_tup
  k_steps
  ·refine Stop.mk ?_
   f_tup
   have hlt : m1 < a.num := by assumption
   rename Fr _ _ _ _ => F9
   rename News _ _ _ _ => N9
   k_dflt (refine' my_tail F9 N9 ?hm ?_ ?hs ?hz)
   case hm => k_mem
   case hs => with_unfolding_all rfl
   case hz => w_how
   intro D9 h9 F8 N8 l1
   have l2 := l1
   k_lt l2
   clear F9 N9
   f_tup
   k_steps
   refine Stop.mk ?_
   f_tup
   rename Fr _ _ _ _ => F9
   rename News _ _ _ _ => N9
   have S' : Sta ev ed lg cb.er ho hdd { cb with i := D9, is := cb.is.tail, ni := 0 } (mt ++ (add ++ r)) := by
    refine Sb2.i (c' := { cb with i := D9, is := cb.is.tail, ni := 0 }) rfl rfl ?_ ?_
    ·simp only [List.mem_cons, List.not_mem_nil, or_false, not_or]
     refine ⟨?_, ?_, ?_, ?_, ?_, ?_, ?_⟩ <;> k_ne
    ·k_all
   have R' : EvRep (add ++ r) { cb with i := D9, is := cb.is.tail, ni := 0 } { b with i := i' } := by
    refine ⟨D, ?_, D3⟩
    rw [hi] at D2
    cases hqs : cb.is with
    |nil => rw [hqs] at hli; simp at hli; w_how
    |cons v vs =>
     rw [hqs] at D2
     cases D2 with
     |cons _ D => exact D
   have hru := fun (b2 : EvS) (er2 : List Str) (h : RunR (acts x1) x1 { b with i := i' } errs' b2 er2) => Less.runs h (ok x1 (wfb.ni (m1, x1) (by rw [hi]; exact .head _))) wfb hj ⟨rfl, rfl, .inr ⟨rfl, m1, hi⟩⟩
   have wf10 : EvB b 10 := wfb.evB (by w_how) (by w_how) (by w_how)
   refine DoesX.use K₁ F9 XB TB D₁ (fun p hp => N9 p ?sub) rfl (script_world (nm := x1) (dt := dtb) (st := stb) (spent := spb) (ne := nb) (c := { cb with i := D9, is := cb.is.tail, ni := 0 }) (a := { b with i := i' }) (C.mono fun p hp => List.mem_append_right _ hp) ok (wfb.ni (m1, x1) (by rw [hi]; exact .head _)) S' R' (wf10.taili hi) hesb (by have := wfb.log; w_how)) (by ktr_room) (by ktr_units) ?_ ?_
   case sub =>
    revert p hp
    dsimp only [wL, hoL, evL]
    kqd_sub
   ·intro g2 v h2 tk2 news2 t2 F2 N2 K2 X2 T2 D2
    (k_extra "st"; k_extra "sr"; km_mul b2; km_mul er2; km_mul add2; km_mul hR; km_mul c2; km_mul es2; km_mul ne2; km_mul dt2; km_mul sp2; km_mul st2; km_mul q1; km_mul q2; km_mul q3; km_mul q4; k_extra "sr")
    f_tup
    clear F9 N9
    f_tup
    k_steps
    f_tup
    (refine arr ?_ (hru b2 er2 hR); km_mul wf2; intro hlt2)
    have eA : (add2 ++ add) ++ r = add2 ++ (add ++ r) := List.append_assoc ..
    have q2' : Sta ev ed lg c.er ho hdd c2 (mt ++ (add2 ++ (add ++ r))) := by rw [← Sb.ce]; exact q2
    refine ⟨rfl, g2, h2, _, _, _, pot b2, rfl, t₁.trans t2, F2, N2, K2, X2, T2, D2, fun y hy => by simp only [if_neg hy], hlt2, b2, er2, add2 ++ add, rfl, wf2, hR.errs (by exact hlb), fun d er'' h => hI _ _ (.step hi hlt hR h), c2, es2, ne2, dt2, sp2, st2, by rw [eA]; exact q1, by rw [eA]; exact q2', ?_, q4, by rw [eA]⟩
    refine Off.app (q3.sub fun x hx => ?_) Ob
    simp only [List.map_append, List.mem_append] at hx ⊢
    rcases hx with h | h
    ·exact .inl h
    ·exact .inr (.inr h)
   ·intro _ _ _ _ _ _ _ _ _ _ _ _ h
    exact h.elim
  ·have hge : ¬ m1 < a.num := by assumption
   exact hret _ _ _ _ _ (by assumption) (by assumption) (by assumption) (by assumption) (by assumption) (by assumption) (by assumption) ⟨rfl, b, errs', add, hI _ _ (.stop fun m x t e => by rw [hi] at e; cases e; exact Int.not_lt.mp hge), cb, eb, nb, dtb, spb, stb, Rb, Sb, Ob, hesb, rfl⟩
 ) ?_
 intro q f
 simpa using f (default : (by exact Fin 1))

theorem ok9 : ∀ y, P9 y := Classical.choose_spec ex9 (by with_unfolding_all exact core9)
end run_idle_h
theorem run_idle_does {prog : Program} {w : World} {mean : ExcName → Option Value} {mg mb : Str → Option Value} {mt r : Led} {ev ed lg ho hdd ne j : Nat} {hc : HoC} {dt st : Tok} {spent : Int} {c : EvC} {a : EvS} {es : List Value} {errs : List Str} {acts : Str → List Act}
  (C : Cmds prog w ev lg hc acts r) (ok : ∀ nm ∈ sNames, ActsOk (wtN nm) (acts nm)) (S : Sta ev ed lg c.er ho hdd c (mt ++ r)) (R : EvRep r c a) (wf : WfA j a) (hj : j ≤ 20) (hes : DatAll [] es (errs.map Dat.str)) (hl : errs.length ≤ a.log.length) :
  DoesX prog w mean mg mb 188 [.ref ev, .ref ho] 24 150 (wL w.params ev ed lg ho hdd hc dt spent st c a es ne (mt ++ r))
   (fun v l => v = .none ∧ ∃ b errs' add, IdleR acts a.num a errs b errs' ∧ Wo w.params ev ed lg c.er ho hdd hc mt r b errs' add l) (fun _ _ => False) := by
 intros dp un gd cn cs a' ccd cl outer A₀ base h₀ L m s Q E B9 F9 XB9 TB9 D9 N9 k9 hcl9
 subst hcl9
 exact run_idle_h.ok9 (prog, w, mean, mg, mb, mt, r, ev, ed, lg, ho, hdd, ne, j, hc, dt, st, spent, c, a, es, errs, acts, (dp, un, gd, cn, cs, a', ccd, [], outer, A₀, base, h₀, L, m, s, Q, E)) C ok S R wf hj hes hl B9 F9 XB9 TB9 D9 N9 k9
end
theorem In_E12.in_E12 : True := trivial
noncomputable section
open In_E12
noncomputable def StepR (acts : Str → List Act) (wt : Bool) (a : EvS) (er : List Str) (b : EvS) (er' : List Str) (ret : Bool) : Prop :=
 ∃ a1, (a1 = if wt = true ∧ a.i = [] then (match a.q with | [] => a | t :: _ => { a with now := max a.now t.1 }) else a) ∧
  ((∃ t n x q', a.q = (t, n, x) :: q' ∧ t ≤ a1.now ∧ RunR (acts x) x { a1 with q := q' } er b er' ∧ ret = true) ∨
   ((∀ t n x q', a.q = (t, n, x) :: q' → a1.now < t) ∧ a.i ≠ [] ∧ IdleR acts a1.num a1 er b er' ∧ ret = true) ∨
   ((∀ t n x q', a.q = (t, n, x) :: q' → a1.now < t) ∧ a.i = [] ∧ b = a1 ∧ er' = er ∧ ret = false))
theorem Sta.tok {ev ed lg er ho hdd : Addr} {c c' : EvC} {t : Led} (h : Sta ev ed lg er ho hdd c t) (h1 : c'.er = c.er) (h2 : c'.i = c.i) (h3 : c'.q = c.q) : Sta ev ed lg er ho hdd c' t := ⟨h1.trans h.ce, by rw [h2, h3]; exact h.nd, by rw [h2, h3]; exact h.off⟩
theorem ed_names {h₀ h : Heap} {L : Addr} {p1 p2 p3 : Addr × Obj} {ed : Addr} {hs : Int} {ky : Value} {x : Int} {t : Tok} {es : List DictEntry} {k : Nat} {l : Led} (_ : News h₀ L h (p1 :: p2 :: p3 :: (ed, dictOf (⟨hs, ky, .int x t⟩ :: es) k) :: l)) : ∃ x' t', x' = x ∧ t' = t := ⟨_, _, rfl, rfl⟩
namespace step_h
noncomputable abbrev T9 : Type := Program × World × (ExcName → Option Value) × (Str → Option Value) × (Str → Option Value) × Led × Led × Nat × Nat × Nat × Nat × Nat × Nat × Nat × HoC × Tok × Tok × Int × EvC × EvS × List Value × List Str × (Str → List Act) × Bool × Cx
noncomputable def S9 (prog : Program) (w : World) (mean : ExcName → Option Value) (mg : Str → Option Value) (mb : Str → Option Value) (mt : Led) (r : Led) (ev : Nat) (ed : Nat) (lg : Nat) (ho : Nat) (hdd : Nat) (ne : Nat) (j : Nat) (hc : HoC) (dt : Tok) (st : Tok) (spent : Int) (c : EvC) (a : EvS) (es : List Value) (errs : List Str) (acts : Str → List Act) (wt : Bool) (x9 : Cx) : Prop :=
 ∀ (C : Cmds prog w ev lg hc acts r) (ok : ∀ nm ∈ sNames, ActsOk (wtN nm) (acts nm)) (S : Sta ev ed lg c.er ho hdd c (mt ++ r)) (R : EvRep r c a) (wf : WfA j a) (hj : j ≤ 20) (hes : DatAll [] es (errs.map Dat.str)) (hl : errs.length ≤ a.log.length), DoesX.at prog w mean mg mb 262 [.ref ev, .ref ho, .bool wt] 26 160 (wL w.params ev ed lg ho hdd hc dt spent st c a es ne (mt ++ r))
   (fun v l => ∃ ret b errs' add, v = .bool ret ∧ StepR acts wt a errs b errs' ret ∧ Wo w.params ev ed lg c.er ho hdd hc mt r b errs' add l) (fun _ _ => False) x9.1 x9.2.1 x9.2.2.1 x9.2.2.2.1 x9.2.2.2.2.1 x9.2.2.2.2.2.1 x9.2.2.2.2.2.2.1 x9.2.2.2.2.2.2.2.2.1 x9.2.2.2.2.2.2.2.2.2.1 x9.2.2.2.2.2.2.2.2.2.2.1 x9.2.2.2.2.2.2.2.2.2.2.2.1 x9.2.2.2.2.2.2.2.2.2.2.2.2.1 x9.2.2.2.2.2.2.2.2.2.2.2.2.2.1 x9.2.2.2.2.2.2.2.2.2.2.2.2.2.2.1 x9.2.2.2.2.2.2.2.2.2.2.2.2.2.2.2.1 x9.2.2.2.2.2.2.2.2.2.2.2.2.2.2.2.2
noncomputable def P9 : T9 → Prop := cur fun prog => cur fun w => cur fun mean => cur fun mg => cur fun mb => cur fun mt => cur fun r => cur fun ev => cur fun ed => cur fun lg => cur fun ho => cur fun hdd => cur fun ne => cur fun j => cur fun hc => cur fun dt => cur fun st => cur fun spent => cur fun c => cur fun a => cur fun es => cur fun errs => cur fun acts => cur fun wt => fun x9 => S9 prog w mean mg mb mt r ev ed lg ho hdd ne j hc dt st spent c a es errs acts wt x9
theorem ex9 : ∃ x, P9 x → ∀ y, P9 y := drinker P9 (PySem.Challenge.rw_np0139_01.prog, w0, default, default, default, default, default, default, default, default, default, default, default, default, (⟨fun _ => 0, 0, 0, 0, 0, 0, 0, 0⟩ : HoC), default, default, default, (⟨0, 0, 0, fun _ => 0, 0, 0, 0, 0, 0, [], [], []⟩ : EvC), (⟨0, 0, [], [], []⟩ : EvS), default, default, default, default, cx0)
@[irreducible] def c9 : T9 := Classical.choose ex9
@[irreducible] def prog := c9.1
@[irreducible] def w := c9.2.1
@[irreducible] def mean := c9.2.2.1
@[irreducible] def mg := c9.2.2.2.1
@[irreducible] def mb := c9.2.2.2.2.1
@[irreducible] def mt := c9.2.2.2.2.2.1
@[irreducible] def r := c9.2.2.2.2.2.2.1
@[irreducible] def ev := c9.2.2.2.2.2.2.2.1
@[irreducible] def ed := c9.2.2.2.2.2.2.2.2.1
@[irreducible] def lg := c9.2.2.2.2.2.2.2.2.2.1
@[irreducible] def ho := c9.2.2.2.2.2.2.2.2.2.2.1
@[irreducible] def hdd := c9.2.2.2.2.2.2.2.2.2.2.2.1
@[irreducible] def ne := c9.2.2.2.2.2.2.2.2.2.2.2.2.1
@[irreducible] def j := c9.2.2.2.2.2.2.2.2.2.2.2.2.2.1
@[irreducible] def hc := c9.2.2.2.2.2.2.2.2.2.2.2.2.2.2.1
@[irreducible] def dt := c9.2.2.2.2.2.2.2.2.2.2.2.2.2.2.2.1
@[irreducible] def st := c9.2.2.2.2.2.2.2.2.2.2.2.2.2.2.2.2.1
@[irreducible] def spent := c9.2.2.2.2.2.2.2.2.2.2.2.2.2.2.2.2.2.1
@[irreducible] def c := c9.2.2.2.2.2.2.2.2.2.2.2.2.2.2.2.2.2.2.1
@[irreducible] def a := c9.2.2.2.2.2.2.2.2.2.2.2.2.2.2.2.2.2.2.2.1
@[irreducible] def es := c9.2.2.2.2.2.2.2.2.2.2.2.2.2.2.2.2.2.2.2.2.1
@[irreducible] def errs := c9.2.2.2.2.2.2.2.2.2.2.2.2.2.2.2.2.2.2.2.2.2.1
@[irreducible] def acts := c9.2.2.2.2.2.2.2.2.2.2.2.2.2.2.2.2.2.2.2.2.2.2.1
@[irreducible] def wt := c9.2.2.2.2.2.2.2.2.2.2.2.2.2.2.2.2.2.2.2.2.2.2.2.1
@[irreducible] def x9 := c9.2.2.2.2.2.2.2.2.2.2.2.2.2.2.2.2.2.2.2.2.2.2.2.2
abbrev h₀ := x9.2.2.2.2.2.2.2.2.2.2.2.1
theorem core9 : S9 prog w mean mg mb mt r ev ed lg ho hdd ne j hc dt st spent c a es errs acts wt x9 := by
 refine wr_z (by
 intro C ok S R wf hj hes hl B F XB TB DK N hk hdp hu hret hexc
 have X : (K9 w.params).In h₀ := XB.keeps B.stays
 have T : Top view9 lse mean mg mb h₀ := TB.keeps B.stays
 f_tup
 (refine arr ?_ (S.ed); km_mul w1; km_mul w8; km_mul w9; km_mul w10; km_mul w11; km_mul w12; intro w13)
 have to := fun (p : Addr × Obj) (hp : p ∈ mt ++ r) => S.to hp
 f_tup
 first | (refine arr ?_ (id R); km_mul D; km_mul D2; intro D3) | (obtain ⟨D, D2, D3⟩ := id R)
 have hlq : c.qs.length = a.q.length := by rw [D.length, List.length_map]
 have hli : c.is.length = a.i.length := by rw [D2.length, List.length_map]
 have hsub : ∀ p ∈ r, p ∈ mt ++ r := fun p hp => List.mem_append_right _ hp
 have o1 : ∀ p ∈ mt, p.1 ≠ ed := fun p hp => (to p (List.mem_append_left _ hp)).2.1
 have o2 : ∀ p ∈ r, p.1 ≠ ed := fun p hp => (to p (List.mem_append_right _ hp)).2.1
 have wfl := wf.len
 have wfg := wf.log
 have wf10 : EvB a 10 := wf.evB (by w_how) (by w_how) (by w_how)
 simp only [wL, hoL, evL] at N
 refine wpAny_call ?_
 k_dflt walk_at "enterX"
 k_with "call ref" => ((fail_if_success (fail_if_success (have h9 := in_E12))); ((refine Stop.out ?_)))
 f_tup
 focus (rcases list_or3 a.q with o9_96 | o9_96; (focus (revert o9_96; intro hq)); rotate_left; (focus (revert o9_96; km_mul ti; km_mul nu; km_mul nm; km_mul q'; intro hq)); rotate_left)
 ·skip
  have hlq0 : a.q.length = 0 := by rw [hq]; rfl
  f_tup
  focus (rcases list_or a.i with o9_98 | o9_98; (focus (revert o9_98; intro hi)); rotate_left; (focus (revert o9_98; km_mul t0; km_mul i'; intro hi)); rotate_left)
  ·skip
   have hli0 : a.i.length = 0 := by rw [hi]; rfl
   f_tup
   k_steps
   all_goals exact hret h₀ _ _ _ _ KtsTurn.refl (by assumption) (by assumption) B X T DK ⟨false, a, errs, [], rfl, ⟨a, by rw [hq]; split <;> rfl, .inr (.inr ⟨fun t n x q' e => (by rw [hq] at e; cases e), hi, rfl, rfl, rfl⟩)⟩, c, es, ne, dt, spent, st, R, S, off_nil, hes, rfl⟩
  ·skip
   have hli0 : a.i.length = i'.length + 1 := by rw [hi]; rfl
   f_tup
   k_steps
   all_goals
    refine Stop.mk ?_
    f_tup
    rename Fr _ _ _ _ => F9
    rename News _ _ _ _ => N9
    refine DoesX.use B' F9 XB TB D' N9 rfl (run_idle_does (j := j) C ok S R wf hj hes hl) (by ktr_room) (by ktr_units) ?_ ?_
    ·intro g2 v h2 tk2 news2 t2 F2 N2 K2 X2 T2 D9
     (k_extra "st"; k_extra "sr"; km_mul b; km_mul errs'; km_mul add; km_mul hR; intro hW)
     f_tup
     clear F9 N9
     f_tup
     k_steps
     exact hret _ _ _ _ news2 (by assumption) (by assumption) (by assumption) (by assumption) (by assumption) (by assumption) (by assumption) ⟨true, b, errs', add, rfl, ⟨a, by rw [if_neg (fun h => absurd h.2 (by rw [hi]; exact List.cons_ne_nil _ _))], .inr (.inl ⟨fun t n x q' e => (by rw [hq] at e; cases e), (by rw [hi]; exact List.cons_ne_nil _ _), hR, rfl⟩)⟩, hW⟩
    ·intro _ _ _ _ _ _ _ _ _ _ _ _ h
     exact h.elim
 ·skip
  have hlq0 : a.q.length = q'.length + 1 := by rw [hq]; rfl
  have e0 : a.q[Int.toNat 0]? = some (ti, nu, nm) := by rw [hq]; rfl
  have hnm : nm ∈ sNames := wf.nq (ti, nu, nm) (by rw [hq]; exact .head _)
  f_tup
  focus (rcases list_or a.i with o9_101 | o9_101; (focus (revert o9_101; intro hi)); rotate_left; (focus (revert o9_101; km_mul t0; km_mul i'; intro hi)); rotate_left)
  ·skip
   have hli0 : a.i.length = 0 := by rw [hi]; rfl
   have hmax : (if ti > a.now then ti else a.now) = max a.now ti := by w_how
   f_tup
   k_steps
   all_goals first | exact absurd (show ti ≤ (if ti > a.now then ti else a.now) by split <;> w_how) (by assumption) | skip
   ·refine Stop.mk ?_
    f_tup
    rename Fr _ _ _ _ => F9
    rename News _ _ _ _ => N9
    f_tup
    (refine arr ?_ (ed_names N9); km_mul x9; km_mul t9; km_mul ex; intro et)
    rw [← ex, ← et] at N9
    have c9 := run_timer_does (prog := prog) (mean := mean) (mg := mg) (mb := mb) (dt := dt) (st := st) (spent := spent) (ne := ne) (c := { c with tn := t9 }) (a := { a with now := x9 }) C ok hnm (S.tok (c' := { c with tn := t9 }) rfl rfl rfl) ⟨D, D2, D3⟩ hq ⟨wf10.nd, wf10.lo, wf10.n0, wf10.n1, wf10.few, wf10.log⟩ hes (by w_how)
    refine DoesX.use B' F9 XB TB D' N9 rfl c9 (by ktr_room) (by ktr_units) ?_ ?_
    ·intro g2 v h2 tk2 news2 t2 F2 N2 K2 X2 T2 D9
     (k_extra "st"; k_extra "sr"; km_mul b; km_mul errs'; km_mul add; km_mul hR; intro hW)
     f_tup
     clear F9 N9
     rw [hmax] at ex
     subst ex
     have hwt : wt = true := by assumption
     f_tup
     k_steps
     exact hret _ _ _ _ news2 (by assumption) (by assumption) (by assumption) (by assumption) (by assumption) (by assumption) (by assumption) ⟨true, b, errs', add, rfl, ⟨{ a with now := max a.now ti }, by rw [if_pos ⟨hwt, hi⟩]; simp only [hq], .inl ⟨ti, nu, nm, q', hq, by dsimp only; w_how, hR, rfl⟩⟩, hW⟩
    ·intro _ _ _ _ _ _ _ _ _ _ _ _ h
     exact h.elim
   ·have hle : ti ≤ a.now := by assumption
    have hwt : ¬ wt = true := by first | assumption | (rw [show wt = false by assumption]; decide)
    refine Stop.mk ?_
    f_tup
    rename Fr _ _ _ _ => F9
    rename News _ _ _ _ => N9
    refine DoesX.use B' F9 XB TB D' N9 rfl (run_timer_does C ok hnm S R hq wf10 hes (by w_how)) (by ktr_room) (by ktr_units) ?_ ?_
    ·intro g2 v h2 tk2 news2 t2 F2 N2 K2 X2 T2 D9
     (k_extra "st"; k_extra "sr"; km_mul b; km_mul errs'; km_mul add; km_mul hR; intro hW)
     f_tup
     clear F9 N9
     f_tup
     k_steps
     exact hret _ _ _ _ news2 (by assumption) (by assumption) (by assumption) (by assumption) (by assumption) (by assumption) (by assumption) ⟨true, b, errs', add, rfl, ⟨a, by rw [if_neg (fun h => absurd h.1 hwt)], .inl ⟨ti, nu, nm, q', hq, hle, hR, rfl⟩⟩, hW⟩
    ·intro _ _ _ _ _ _ _ _ _ _ _ _ h
     exact h.elim
   ·have hle : ¬ ti ≤ a.now := by assumption
    have hwt : ¬ wt = true := by first | assumption | (rw [show wt = false by assumption]; decide)
    exact hret h₀ _ _ _ _ KtsTurn.refl (by assumption) (by assumption) B X T DK ⟨false, a, errs, [], rfl, ⟨a, by rw [if_neg (fun h => absurd h.1 hwt)], .inr (.inr ⟨fun t n x q' e => (by rw [hq] at e; cases e; exact Int.not_le.mp hle), hi, rfl, rfl, rfl⟩)⟩, c, es, ne, dt, spent, st, R, S, off_nil, hes, rfl⟩
  ·skip
   have hli0 : a.i.length = i'.length + 1 := by rw [hi]; rfl
   have hne : ¬ (wt = true ∧ a.i = []) := fun h => absurd h.2 (by rw [hi]; exact List.cons_ne_nil _ _)
   f_tup
   k_steps
   all_goals first
    |(have hle : ti ≤ a.now := by assumption)
     refine Stop.mk ?_
     f_tup
     rename Fr _ _ _ _ => F9
     rename News _ _ _ _ => N9
     refine DoesX.use B' F9 XB TB D' N9 rfl (run_timer_does C ok hnm S R hq wf10 hes (by w_how)) (by ktr_room) (by ktr_units) ?_ ?_
     ·intro g2 v h2 tk2 news2 t2 F2 N2 K2 X2 T2 D9
      (k_extra "st"; k_extra "sr"; km_mul b; km_mul errs'; km_mul add; km_mul hR; intro hW)
      f_tup
      clear F9 N9
      f_tup
      k_steps
      exact hret _ _ _ _ news2 (by assumption) (by assumption) (by assumption) (by assumption) (by assumption) (by assumption) (by assumption) ⟨true, b, errs', add, rfl, ⟨a, by rw [if_neg (hne)], .inl ⟨ti, nu, nm, q', hq, hle, hR, rfl⟩⟩, hW⟩
     ·intro _ _ _ _ _ _ _ _ _ _ _ _ h
      exact h.elim
    |(have hle : ¬ ti ≤ a.now := by assumption)
     refine Stop.mk ?_
     f_tup
     rename Fr _ _ _ _ => F9
     rename News _ _ _ _ => N9
     refine DoesX.use B' F9 XB TB D' N9 rfl (run_idle_does (j := j) C ok S R wf hj hes hl) (by ktr_room) (by ktr_units) ?_ ?_
     ·intro g2 v h2 tk2 news2 t2 F2 N2 K2 X2 T2 D9
      (k_extra "st"; k_extra "sr"; km_mul b; km_mul errs'; km_mul add; km_mul hR; intro hW)
      f_tup
      clear F9 N9
      f_tup
      k_steps
      exact hret _ _ _ _ news2 (by assumption) (by assumption) (by assumption) (by assumption) (by assumption) (by assumption) (by assumption) ⟨true, b, errs', add, rfl, ⟨a, by rw [if_neg (fun h => absurd h.2 (by rw [hi]; exact List.cons_ne_nil _ _))], .inr (.inl ⟨fun t n x q' e => (by rw [hq] at e; cases e; exact Int.not_le.mp hle), (by rw [hi]; exact List.cons_ne_nil _ _), hR, rfl⟩)⟩, hW⟩
     ·intro _ _ _ _ _ _ _ _ _ _ _ _ h
      exact h.elim
 ) ?_
 intro q f
 simpa using f (default : (by exact Fin 1))

theorem ok9 : ∀ y, P9 y := Classical.choose_spec ex9 (by with_unfolding_all exact core9)
end step_h
theorem step_does {prog : Program} {w : World} {mean : ExcName → Option Value} {mg mb : Str → Option Value} {mt r : Led} {ev ed lg ho hdd ne j : Nat} {hc : HoC} {dt st : Tok} {spent : Int} {c : EvC} {a : EvS} {es : List Value} {errs : List Str} {acts : Str → List Act} {wt : Bool}
  (C : Cmds prog w ev lg hc acts r) (ok : ∀ nm ∈ sNames, ActsOk (wtN nm) (acts nm)) (S : Sta ev ed lg c.er ho hdd c (mt ++ r)) (R : EvRep r c a) (wf : WfA j a) (hj : j ≤ 20) (hes : DatAll [] es (errs.map Dat.str)) (hl : errs.length ≤ a.log.length) :
  DoesX prog w mean mg mb 262 [.ref ev, .ref ho, .bool wt] 26 160 (wL w.params ev ed lg ho hdd hc dt spent st c a es ne (mt ++ r))
   (fun v l => ∃ ret b errs' add, v = .bool ret ∧ StepR acts wt a errs b errs' ret ∧ Wo w.params ev ed lg c.er ho hdd hc mt r b errs' add l) (fun _ _ => False) := by
 intros dp un gd cn cs a' ccd cl outer A₀ base h₀ L m s Q E B9 F9 XB9 TB9 D9 N9 k9 hcl9
 subst hcl9
 exact step_h.ok9 (prog, w, mean, mg, mb, mt, r, ev, ed, lg, ho, hdd, ne, j, hc, dt, st, spent, c, a, es, errs, acts, wt, (dp, un, gd, cn, cs, a', ccd, [], outer, A₀, base, h₀, L, m, s, Q, E)) C ok S R wf hj hes hl B9 F9 XB9 TB9 D9 N9 k9
end
theorem In_S1.in_S1 : True := trivial
noncomputable section
open In_S1 Off9 Noi9
structure LtOk (n : Nat) (lt : Nat → Nat → Bool) : Prop where
 irr : ∀ i, i < n → lt i i = false
 tr : ∀ i j k, i < n → j < n → k < n → lt i j = true → lt j k = true → lt i k = true
 tot : ∀ i j, i < n → j < n → i ≠ j → lt i j = true ∨ lt j i = true
noncomputable def IdxOf (n : Nat) (p : Array Nat) : Prop := p.toList.Perm (List.range n)
noncomputable abbrev pg (p : Array Nat) (i : Nat) : Nat := p.getD i 0
theorem IdxOf.size {n : Nat} {p : Array Nat} (h : IdxOf n p) : p.size = n := by have := List.Perm.length_eq h; simpa using this
theorem IdxOf.lt {n : Nat} {p : Array Nat} (h : IdxOf n p) {i : Nat} (hi : i < n) : pg p i < n := by
 have hs := h.size
 have : pg p i ∈ p.toList := by
  have h2 : i < p.size := by w_how
  simp [pg, Array.getD, h2]
 simpa using (List.Perm.mem_iff h).mp this
theorem IdxOf.inj {n : Nat} {p : Array Nat} (h : IdxOf n p) {i j : Nat} (hi : i < n) (hj : j < n) (e : pg p i = pg p j) : i = j := by
 have hs := h.size
 have nd : p.toList.Nodup := (List.Perm.nodup_iff h).mpr List.nodup_range
 have h2 : i < p.size := by w_how
 have h3 : j < p.size := by w_how
 have e2 : p.toList[i]'(by simpa using h2) = p.toList[j]'(by simpa using h3) := by
  simpa [pg, Array.getD, h2, h3] using e
 rcases Nat.lt_trichotomy i j with q | q | q
 ·exact absurd e2 (List.pairwise_iff_getElem.mp nd i j _ _ q)
 ·exact q
 ·exact absurd e2.symm (List.pairwise_iff_getElem.mp nd j i _ _ q)
noncomputable def SrtTo (lt : Nat → Nat → Bool) (p : Array Nat) (m : Nat) : Prop := ∀ i j, i < j → j < m → lt (pg p i) (pg p j) = true
noncomputable def DecTo (lt : Nat → Nat → Bool) (p : Array Nat) (m : Nat) : Prop := ∀ i j, i < j → j < m → lt (pg p j) (pg p i) = true
theorem pg_congr {p q : Array Nat} {i j : Nat} (h : p[i]? = q[j]?) : pg p i = pg q j := by simp [pg, Array.getD_eq_getD_getElem?, h]
section
variable {n : Nat} {lt : Nat → Nat → Bool} {cmp : Nat → Nat → (Bool → Shared → Prop) → Shared → Prop} {s : Shared}
noncomputable def CmpOk (n : Nat) (lt : Nat → Nat → Bool) (cmp : Nat → Nat → (Bool → Shared → Prop) → Shared → Prop) (s : Shared) : Prop := ∀ i j, i < n → j < n → i ≠ j → ∀ C : Bool → Shared → Prop, C (lt i j) s → cmp i j C s
theorem srt_asc (O : LtOk n lt) (c : CmpOk n lt cmp s) {p : Array Nat} (hp : IdxOf n p) {G : Nat → Shared → Prop} : ∀ (f a : Nat), 1 ≤ a → a + f ≤ n → SrtTo lt p a → (∀ r, a ≤ r → r ≤ a + f → SrtTo lt p r → (r = a + f ∨ lt (pg p r) (pg p (r - 1)) = true) → G r s) → (kas_asc p f a).kasWp cmp G s := by
 intro f
 induction f with
 |zero => intro a h1 h2 h3 h; exact h a (Nat.le_refl _) (Nat.le_refl _) h3 (.inl rfl)
 |succ f ih =>
  intro a h1 h2 h3 h
  refine c _ _ (hp.lt (by w_how)) (hp.lt (by w_how)) (fun q => by have := hp.inj (by w_how) (by w_how) q; w_how) _ ?_
  show KasT.kasWp cmp (if lt _ _ = true then _ else _) G s
  cases e : lt (pg p a) (pg p (a - 1)) with
  |true =>
   rw [if_pos rfl]
   exact h a (Nat.le_refl _) (by w_how) h3 (.inr e)
  |false =>
   rw [if_neg (by decide)]
   have e2 : lt (pg p (a - 1)) (pg p a) = true := by
    rcases O.tot (pg p a) (pg p (a - 1)) (hp.lt (by w_how)) (hp.lt (by w_how)) (fun q => by have := hp.inj (by w_how) (by w_how) q; w_how) with q | q
    ·rw [e] at q; cases q
    ·exact q
   refine ih (a + 1) (by w_how) (by w_how) (fun i j hij hj => ?_) (fun r r1 r2 r3 r4 => h r (by w_how) (by w_how) r3 (by rcases r4 with q | q; exact .inl (by w_how); exact .inr q))
   by_cases hja : j < a
   ·exact h3 i j hij hja
   ·have : j = a := by w_how
    subst this
    by_cases hi : i = j - 1
    ·rw [hi]; exact e2
    ·exact O.tr _ _ _ (hp.lt (by w_how)) (hp.lt (by w_how)) (hp.lt (by w_how)) (h3 i (j - 1) (by w_how) (by w_how)) e2
theorem srt_desc (O : LtOk n lt) (c : CmpOk n lt cmp s) {p : Array Nat} (hp : IdxOf n p) {G : Array Nat × Nat × Nat → Shared → Prop} : ∀ (f a : Nat), 1 ≤ a → a + f ≤ n → DecTo lt p a → (∀ r, a ≤ r → r ≤ a + f → DecTo lt p r → G (p, r, 0) s) → (kas_desc f p a 0).kasWp cmp G s := by
 intro f
 induction f with
 |zero => intro a h1 h2 h3 h; exact h a (Nat.le_refl _) (Nat.le_refl _) h3
 |succ f ih =>
  intro a h1 h2 h3 h
  refine c _ _ (hp.lt (by w_how)) (hp.lt (by w_how)) (fun q => by have := hp.inj (by w_how) (by w_how) q; w_how) _ ?_
  show KasT.kasWp cmp (if lt _ _ = true then _ else _) G s
  cases e : lt (pg p a) (pg p (a - 1)) with
  |true =>
   rw [if_pos rfl, if_neg (by w_how)]
   refine ih (a + 1) (by w_how) (by w_how) (fun i j hij hj => ?_) (fun r r1 r2 r3 => h r (by w_how) (by w_how) r3)
   by_cases hja : j < a
   ·exact h3 i j hij hja
   ·have : j = a := by w_how
    subst this
    by_cases hi : i = j - 1
    ·rw [hi]; exact e
    ·exact O.tr _ _ _ (hp.lt (by w_how)) (hp.lt (by w_how)) (hp.lt (by w_how)) e (h3 i (j - 1) (by w_how) (by w_how))
  |false =>
   rw [if_neg (by decide)]
   refine c _ _ (hp.lt (by w_how)) (hp.lt (by w_how)) (fun q => by have := hp.inj (by w_how) (by w_how) q; w_how) _ ?_
   show KasT.kasWp cmp (if lt _ _ = true then _ else _) G s
   have e2 : lt (pg p (a - 1)) (pg p a) = true := by
    rcases O.tot (pg p a) (pg p (a - 1)) (hp.lt (by w_how)) (hp.lt (by w_how)) (fun q => by have := hp.inj (by w_how) (by w_how) q; w_how) with q | q
    ·rw [e] at q; cases q
    ·exact q
   rw [show lt (p.getD (a - 1) 0) (p.getD a 0) = true from e2, if_pos rfl]
   exact h a (Nat.le_refl _) (by w_how) h3
theorem idx_perm {p q : Array Nat} (hp : IdxOf n p) (h : q.Perm p) : IdxOf n q := (Array.perm_iff_toList_perm.mp h).trans hp
theorem srt_tail (O : LtOk n lt) (c : CmpOk n lt cmp s) {p : Array Nat} (hp : IdxOf n p) {k : Nat} {G : Nat × Array Nat → Shared → Prop} (h1 : 1 ≤ k) (h2 : k ≤ n) (h3 : DecTo lt p k) (h : ∀ m q, IdxOf n q → 1 ≤ m → m ≤ n → SrtTo lt q m → G (m, q) s) : (kas_tail3 k n p).kasWp cmp G s := by
 unfold kas_tail3
 rw [KasT.kasWp_bind]
 have hp' : IdxOf n (kas_rev p 0 k) := idx_perm hp (mirror_perm _ _ _ _)
 refine srt_asc O c hp' (n - k) k h1 (by w_how) (fun i j hij hj => ?_) (fun r r1 r2 r3 _ => h r _ hp' (by w_how) (by w_how) r3)
 have hs := hp.size
 have e : ∀ i, i < k → pg (kas_rev p 0 k) i = pg p (k - 1 - i) := fun i hi => pg_congr (by
  unfold kas_rev
  rw [getElem?_mirror_all (by w_how), if_pos (by w_how)]
  congr 1
  w_how)
 rw [e i (by w_how), e j hj]
 exact h3 _ _ (by w_how) (by w_how)
theorem srt_count (O : LtOk n lt) (c : CmpOk n lt cmp s) {p : Array Nat} (hp : IdxOf n p) (hn : 1 ≤ n) {G : Nat × Array Nat → Shared → Prop} (h : ∀ m q, IdxOf n q → 1 ≤ m → m ≤ n → SrtTo lt q m → G (m, q) s) : (kas_count n p).kasWp cmp G s := by
 unfold kas_count
 rw [KasT.kasWp_bind]
 refine srt_asc O c hp (n - 1) 1 (Nat.le_refl _) (by w_how) (fun i j hij hj => by w_how) (fun r r1 r2 r3 r4 => ?_)
 by_cases hr : (r == n) = true
 ·rw [if_pos hr]; exact h r p hp r1 (by w_how) r3
 rw [if_neg hr]
 have hr' : r ≠ n := by simpa using hr
 have r5 : lt (pg p r) (pg p (r - 1)) = true := r4.resolve_left (by w_how)
 by_cases h1 : r > 1
 ·rw [if_pos h1]
  refine c _ _ (hp.lt (by w_how)) (hp.lt (by w_how)) (fun q => by have := hp.inj (by w_how) (by w_how) q; w_how) _ ?_
  show KasT.kasWp cmp (if lt _ _ = true then _ else _) G s
  rw [show lt (p.getD 0 0) (p.getD (r - 1) 0) = true from r3 0 (r - 1) (by w_how) (by w_how), if_pos rfl]
  exact h r p hp r1 (by w_how) r3
 ·rw [if_neg h1]
  have : r = 1 := by w_how
  subst this
  unfold kas_descPart
  rw [KasT.kasWp_bind]
  refine srt_desc O c hp (n - (1 + 1)) (1 + 1) (by w_how) (by w_how) (fun i j hij hj => ?_) (fun r s1 s2 s3 => ?_)
  ·have e1 : i = 0 := by w_how
   have e2 : j = 1 := by w_how
   rw [e1, e2]; exact r5
  ·dsimp only
   rw [if_neg (by w_how)]
   exact srt_tail O c hp (by w_how) (by w_how) s3 h
theorem srt_place (O : LtOk n lt) (c : CmpOk n lt cmp s) {p : Array Nat} (hp : IdxOf n p) {k : Nat} (hk : k < n) (hs : SrtTo lt p k) {G : Nat → Shared → Prop} : ∀ (f l r : Nat), l ≤ r → r ≤ k → r - l ≤ f → (∀ i, i < l → lt (pg p i) (pg p k) = true) → (∀ i, r ≤ i → i < k → lt (pg p k) (pg p i) = true) →
  (∀ l, l ≤ k → (∀ i, i < l → lt (pg p i) (pg p k) = true) → (∀ i, l ≤ i → i < k → lt (pg p k) (pg p i) = true) → G l s) → (kas_place p k f l r).kasWp cmp G s := by
 intro f
 induction f with
 |zero =>
  intro l r h1 h2 h3 h4 h5 h
  have : l = r := by w_how
  subst this
  exact h l h2 h4 h5
 |succ f ih =>
  intro l r h1 h2 h3 h4 h5 h
  unfold kas_place
  by_cases hlr : l ≥ r
  ·rw [if_pos hlr]
   have : l = r := by w_how
   subst this
   exact h l h2 h4 h5
  ·rw [if_neg hlr]
   refine c _ _ (hp.lt (by w_how)) (hp.lt (by w_how)) (fun q => by have := hp.inj (by w_how) (by w_how) q; w_how) _ ?_
   show KasT.kasWp cmp (if lt _ _ = true then _ else _) G s
   cases e : lt (pg p k) (pg p ((l + r) / 2)) with
   |true =>
    rw [if_pos rfl]
    refine ih l ((l + r) / 2) (by w_how) (by w_how) (by w_how) h4 (fun i i1 i2 => ?_) h
    by_cases hi : i = (l + r) / 2
    ·rw [hi]; exact e
    ·exact O.tr _ _ _ (hp.lt (by w_how)) (hp.lt (by w_how)) (hp.lt (by w_how)) e (hs _ _ (by w_how) i2)
   |false =>
    rw [if_neg (by decide)]
    have e2 : lt (pg p ((l + r) / 2)) (pg p k) = true := by
     rcases O.tot (pg p k) (pg p ((l + r) / 2)) (hp.lt (by w_how)) (hp.lt (by w_how)) (fun q => by have := hp.inj (by w_how) (by w_how) q; w_how) with q | q
     ·rw [e] at q; cases q
     ·exact q
    refine ih ((l + r) / 2 + 1) r (by w_how) h2 (by w_how) (fun i i1 => ?_) h5 h
    by_cases hi : i = (l + r) / 2
    ·rw [hi]; exact e2
    ·exact O.tr _ _ _ (hp.lt (by w_how)) (hp.lt (by w_how)) (hp.lt (by w_how)) (hs i ((l + r) / 2) (by w_how) (by w_how)) e2
theorem srt_bin (O : LtOk n lt) (c : CmpOk n lt cmp s) {G : Array Nat → Shared → Prop} (h : ∀ q, IdxOf n q → SrtTo lt q n → G q s) : ∀ (f k : Nat) (p : Array Nat), IdxOf n p → k + f = n → SrtTo lt p k → (kas_bin f p k).kasWp cmp G s := by
 intro f
 induction f with
 |zero => intro k p hp hk hs; exact h p hp (by rw [← hk]; exact hs)
 |succ f ih =>
  intro k p hp hk hs
  show ((kas_place p k k 0 k).bind fun l => kas_bin f (bubble p k (k - l)) (k + 1)).kasWp cmp G s
  rw [KasT.kasWp_bind]
  refine srt_place O c hp (by w_how) hs k 0 k (by w_how) (Nat.le_refl _) (by w_how) (fun i hi => by w_how) (fun i h1 h2 => by w_how) (fun l hl h4 h5 => ?_)
  refine ih (k + 1) _ (idx_perm hp (bubble_perm _ _ _)) (by w_how) (fun i j hij hj => ?_)
  have hsz := hp.size
  have e : ∀ i, pg (bubble p k (k - l)) i = if i = l then pg p k else if l < i ∧ i ≤ k then pg p (i - 1) else pg p i := fun i => by
   have q := getElem?_bubble (xs := p) (src := k) (by w_how) (k - l) (by w_how) i
   rw [show k - (k - l) = l by w_how] at q
   by_cases h1 : i = l
   ·rw [if_pos h1] at q ⊢; exact pg_congr q
   ·rw [if_neg h1] at q ⊢
    by_cases h2 : l < i ∧ i ≤ k
    ·rw [if_pos h2] at q ⊢; exact pg_congr q
    ·rw [if_neg h2] at q ⊢; exact pg_congr q
  rw [e, e]
  repeat' split
  all_goals first
   |(exfalso; w_how)
   |exact h4 _ (by w_how)
   |exact h5 _ (by w_how) (by w_how)
   |exact hs _ _ (by w_how) (by w_how)
theorem srt_sort (O : LtOk n lt) (c : CmpOk n lt cmp s) (hn : 1 ≤ n) {G : Array Nat → Shared → Prop} (h : ∀ q, IdxOf n q → SrtTo lt q n → G q s) : (kas_sort n).kasWp cmp G s := by
 unfold kas_sort
 rw [KasT.kasWp_bind]
 have h0 : IdxOf n (List.toArray (List.range n)) := List.Perm.refl _
 refine srt_count O c h0 hn (fun m q hq m1 m2 hs => ?_)
 dsimp only
 by_cases hm : m < n
 ·rw [if_pos hm, show max m 1 = m by w_how]
  exact srt_bin O c h _ _ _ hq (by w_how) hs
 ·rw [if_neg hm]
  have : m = n := by w_how
  subst this
  exact h q hq hs
end

end
theorem In_S2.in_S2 : True := trivial
noncomputable section
open In_S2 Off9 Noi9
theorem pw_short {α : Type} {R : α → α → Prop} {l : List α} (h : l.length < 2) : l.Pairwise R := by
 cases l with
 |nil => exact .nil
 |cons x t =>
  cases t with
  |nil => exact List.pairwise_singleton _ _
  |cons y t => exact absurd h (Nat.not_lt.mpr (Nat.le_add_left 2 _))
section
variable {prog : Program} {w : World} {A : Around} {E : Value → Shared → Prop} {s : Shared} {h₀ : Heap} {L a : Addr} {m : Str → Option Value} {news : List (Addr × Obj)} {vs : List Value}
theorem short_list_sort {n : Nat} {P : PySem.Fin → Shared → Prop} (F : Fr h₀ L s.heap m) (N : News h₀ L s.heap news) (ho : s.heap.get? a = some (seqObj "list" vs.toArray n)) (haL : a ≠ L) (ha0 : h₀.get? a = none) (hna : ∀ p ∈ news, p.1 ≠ a)
  (h2 : vs.length < 2) (h : ∀ c h', Fr h₀ L h' m → News h₀ L h' ((a, listOf vs.toArray c) :: news) → P (.done (.ret .none)) { s with heap := h' }) :
  wpAny (model prog w) A (Builtin.«list.sort» ⟨[.ref a], []⟩) P E s := by
 have ha : a < s.heap.objs.size := Heap.lt_size ho
 have s1 := Heap.SameBut.update s.heap a (Obj.mapSeq fun _ => (#[] : Array Value))
 obtain ⟨e1, ho1⟩ : ∃ e1, (s.heap.update a (Obj.mapSeq fun _ => (#[] : Array Value))).get? a = some (seqObj "list" #[] e1) := ⟨_, get?_update_seq ho fun _ => #[]⟩
 have F3 : Fr h₀ L (((s.heap.update a (Obj.mapSeq fun _ => (#[] : Array Value))).push (seqObj "tuple" vs.toArray 0)).push (seqObj "list" #[] 0)) m := ((kas_fr F s1 haL ha0).push _).push _
 have N2 : News h₀ L (((s.heap.update a (Obj.mapSeq fun _ => (#[] : Array Value))).push (seqObj "tuple" vs.toArray 0)).push (seqObj "list" #[] 0)) news :=
  (kas_news N s1 hna).grown fun b x e => Heap.get?_push_of_some _ (Heap.get?_push_of_some _ e)
 have ho6 : (((s.heap.update a (Obj.mapSeq fun _ => (#[] : Array Value))).push (seqObj "tuple" vs.toArray 0)).push (seqObj "list" #[] 0)).get? a = some (seqObj "list" #[] e1) := Heap.get?_push_of_some _ (Heap.get?_push_of_some _ ho1)
 rw [list_sort_plain]
 refine wpAny_bind (listItems_at ho rfl ?_)
 refine wpAny_bind (listUpdate_at ho rfl ?_ (by rw [List.size_toArray, sizeLine_eq]; w_how) (Nat.zero_le _))
 refine wpAny_bind (seqEpoch_at ho1 rfl ?_)
 refine wpAny_bind (wpAny_newTuple ?_ (by show vs.length ≤ _; rw [sizeLine_eq]; w_how))
 refine wpAny_bind (wpAny_newList ?_ (Nat.zero_le _))
 refine wpAny_holding ?_
 show wpAny (model prog w) A _ P E { s with heap := ((s.heap.update a (Obj.mapSeq fun _ => (#[] : Array Value))).push (seqObj "tuple" vs.toArray 0)).push (seqObj "list" #[] 0) }
 dsimp only
 have hn2 : vs.toArray.size < 2 := by rw [List.size_toArray]; w_how
 rw [if_pos hn2, if_pos hn2]
 refine wpAny_bind (wpAny_pure ?_)
 rw [StateT.run_pure]
 refine wpAny_bind (wpAny_pure ?_)
 dsimp only
 refine wpAny_bind (seqEpoch_at ho6 rfl ?_)
 refine wpAny_bind (listUpdate_at ho6 rfl ?_ (Nat.zero_le _) (hsz2 := by rw [Array.size_map]; show (vs.toArray.zip vs.toArray).size ≤ _; rw [Array.size_zip, List.size_toArray, sizeLine_eq]; w_how))
 simp only [bne_self_eq_false, Bool.false_eq_true, if_false]
 refine wpAny_pure ?_
 have hout : (arrOf (SortSt.mk' general' (vs.toArray.zip vs.toArray) #[] 7 none)).map (·.2) = vs.toArray := by
  show (vs.toArray.zip vs.toArray).map (·.2) = vs.toArray
  apply Array.toList_inj.mp
  rw [Array.toList_map, Array.toList_zip]
  have key : ∀ l : List Value, (l.zip l).map (·.2) = l := fun l => by
   induction l with
   |nil => rfl
   |cons x xs ih => rw [List.zip_cons_cons, List.map_cons, ih]
  exact key vs
 have s2 := Heap.SameBut.update (((s.heap.update a (Obj.mapSeq fun _ => (#[] : Array Value))).push (seqObj "tuple" vs.toArray 0)).push (seqObj "list" #[] 0)) a (Obj.mapSeq fun _ => vs.toArray)
 obtain ⟨c2, hc2⟩ : ∃ c2, ((((s.heap.update a (Obj.mapSeq fun _ => (#[] : Array Value))).push (seqObj "tuple" vs.toArray 0)).push (seqObj "list" #[] 0)).update a (Obj.mapSeq fun _ => vs.toArray)).get? a = some (seqObj "list" vs.toArray c2) := ⟨_, get?_update_seq ho6 fun _ => vs.toArray⟩
 rw [hout]
 refine h c2 _ (kas_fr F3 s2 haL ha0) fun p hp => ?_
 rcases List.mem_cons.mp hp with rfl | hp
 ·exact ⟨hc2, haL, ha0⟩
 ·exact (kas_news N2 s2 hna) p hp
theorem short_sorted {l : Addr} {Q : Value → Shared → Prop} (F : Fr h₀ L s.heap m) (N : News h₀ L s.heap news) (hl : s.heap.IsList l vs.toArray) (h2 : vs.length < 2)
  (h : ∀ D c h', Fr h₀ L h' m → News h₀ L h' ((D, listOf vs.toArray c) :: news) → (∀ q ∈ news, q.1 < D) → Q (.ref D) { s with heap := h' }) :
  wpAny (model prog w) A (call (.builtin "sorted") [.ref l]) Q E s := by
 refine Calls.call_function_entry kind_sorted plain_sorted entry_sorted (args_sorted1 _) ?_
 unfold Builtin.«sorted»
 refine wpAny_bind (m := checkCount "sorted" 1 1 _) (wpAny_pure ?_)
 refine wpAny_bind (collect_list hl ?_ (by rw [sizeLine_eq]; w_how))
 refine wpAny_bind (wpAny_newList ?_ (by rw [sizeLine_eq]; w_how))
 have hsz : ((s.heap.push (seqObj "list" #[] 0)).update s.heap.objs.size (Obj.mapSeq (· ++ vs.toArray))).objs.size = s.heap.objs.size + 1 := by
  rw [Heap.size_update, size_push']
 have hoL : (((s.heap.push (seqObj "list" #[] 0)).update s.heap.objs.size (Obj.mapSeq (· ++ vs.toArray))).push (seqObj "list" vs.toArray 0)).get? (s.heap.objs.size + 1) = some (seqObj "list" vs.toArray 0) := by
  rw [← hsz]; exact Heap.get?_push_size _ rfl
 have keep : ∀ b o, s.heap.get? b = some o → (((s.heap.push (seqObj "list" #[] 0)).update s.heap.objs.size (Obj.mapSeq (· ++ vs.toArray))).push (seqObj "list" vs.toArray 0)).get? b = some o := fun b o q => by
  have hlt : b < s.heap.objs.size := Heap.lt_size q
  rw [Heap.get?_push_ne _ _ _ (by rw [hsz]; exact Nat.ne_of_lt (Nat.lt_succ_of_lt hlt)), Heap.get?_update_ne _ _ _ _ (Nat.ne_of_lt hlt), Heap.get?_push_ne _ _ _ (Nat.ne_of_lt hlt)]
  exact q
 have hL : L < s.heap.objs.size := F.ns.lt
 show wpAny _ _ _ _ _ { s with heap := ((s.heap.push (seqObj "list" #[] 0)).update s.heap.objs.size (Obj.mapSeq (· ++ vs.toArray))).push (seqObj "list" vs.toArray 0) }
 rw [hsz]
 refine wpAny_bind (wpAny_holding (wpAny_call_entry slot_list_sort ⟨_, hoL, rfl⟩ entry_list_sort ?body (args_list_sort _)))
 case body =>
  refine short_list_sort (s := { s with heap := ((s.heap.push (seqObj "list" #[] 0)).update s.heap.objs.size (Obj.mapSeq (· ++ vs.toArray))).push (seqObj "list" vs.toArray 0) })
   (F.kept keep) (N.grown keep) hoL (Nat.ne_of_gt (Nat.lt_succ_of_lt hL)) (Heap.get?_none_of_le (Nat.le_trans F.above (Nat.le_succ_of_le (Nat.le_of_lt hL))))
   (fun p hp => Nat.ne_of_lt (Nat.lt_succ_of_lt (Heap.lt_size (N p hp).1))) h2 fun c h' F' N' => ?_
  exact ⟨_, rfl, wpAny_pure ⟨_, rfl, h _ c h' F' N' fun q hq => Nat.lt_succ_of_lt (Heap.lt_size (N q hq).1)⟩⟩
noncomputable def lex2 (a b : Int × Int) : Bool := decide (a.1 < b.1 ∨ (a.1 = b.1 ∧ a.2 < b.2))
theorem katTups_of {h : Heap} : ∀ (vs : List Value), (∀ v ∈ vs, ∃ a o xs n k t, v = .ref a ∧ h.get? a = some o ∧ o.cls = .type "tuple" ∧ o.data = .seq xs n ∧ xs[0]? = some (Value.int k t)) → ∃ fs, KatTups h vs fs ∧ fs.length = vs.length ∧ ∀ v ∈ fs, ∃ k t, v = .int k t
 |[], _ => ⟨[], KatTups.nil, rfl, fun _ h => nomatch h⟩
 |v :: vs, hv => by
  obtain ⟨a, o, xs, n, k, t, rfl, e2, e3, e4, e5⟩ := hv v (.head _)
  obtain ⟨fs, h1, h2, h3⟩ := katTups_of vs fun w hw => hv w (.tail _ hw)
  refine ⟨.int k t :: fs, KatTups.cons e2 e3 e4 e5 h1, by simp [h2], fun w hw => ?_⟩
  rcases List.mem_cons.mp hw with rfl | hw
  ·exact ⟨k, t, rfl⟩
  ·exact h3 w hw
theorem key2_ne {ks : List (Int × Int)} (hnd : (ks.map (·.2)).Nodup) {i j : Nat} (hi : i < ks.length) (hj : j < ks.length) (hij : i ≠ j) : (ks.getD i (0, 0)).2 ≠ (ks.getD j (0, 0)).2 := by
 have key : ∀ i j (hi : i < ks.length) (hj : j < ks.length), i < j → (ks[i]).2 ≠ (ks[j]).2 := fun i j hi hj hlt => by
  have := List.pairwise_iff_getElem.mp hnd i j (by simpa using hi) (by simpa using hj) hlt
  simpa using this
 simp only [List.getD_eq_getElem?_getD, List.getElem?_eq_getElem hi, List.getElem?_eq_getElem hj, Option.getD_some]
 rcases Nat.lt_or_gt_of_ne hij with h | h
 ·exact key i j hi hj h
 ·exact Ne.symm (key j i hj hi h)
theorem sorted_tup {l : Addr} {ks : List (Int × Int)} {Q : Value → Shared → Prop} (F : Fr h₀ L s.heap m) (N : News h₀ L s.heap news) (hl : s.heap.IsList l vs.toArray) (h64 : vs.length < 64)
  (hk : ∀ (i : Nat) (hi : i < ks.length), ∃ a o xs n t1 t2 x, vs[i]? = some (.ref a) ∧ (a, o) ∈ news ∧ o.cls = .type "tuple" ∧ o.data = .seq (List.toArray (.int (ks[i]).1 t1 :: .int (ks[i]).2 t2 :: x :: xs)) n)
  (hlen : vs.length = ks.length) (hnd : (ks.map (·.2)).Nodup)
  (h : ∀ D c h' (p : List Nat), p.Perm (List.range ks.length) → (p.map fun i => ks.getD i (0, 0)).Pairwise (fun a b => lex2 a b = true) → Fr h₀ L h' m → News h₀ L h' ((D, listOf (p.map fun i => vs.getD i Value.none).toArray c) :: news) → (∀ q ∈ news, q.1 < D) → Q (.ref D) { s with heap := h' }) :
  wpAny (model prog w) A (call (.builtin "sorted") [.ref l]) Q E s := by
 by_cases h2 : vs.length < 2
 ·refine short_sorted F N hl h2 fun D c h' F' N' l1 => h D c h' (List.range ks.length) (.refl _) ?_ F' ?_ l1
  ·have hk2 : ks.length < 2 := by w_how
   exact pw_short (by rw [List.length_map, List.length_range]; exact hk2)
  ·have e : ((List.range ks.length).map fun i => vs.getD i Value.none) = vs := by
    rw [← hlen]
    apply List.ext_getElem
    ·simp
    ·intro i h1 h2
     simp at h1
     simp [h1]
   rw [e]
   exact N'
 refine kat_sorted F N hl (by w_how) h64 fun D e1 h' F' N' l1 => ?_
 have hk' : ∀ (i : Nat) (hi : i < ks.length), ∃ a o xs n t1 t2 x, vs[i]? = some (.ref a) ∧ h'.get? a = some o ∧ o.cls = .type "tuple" ∧ o.data = .seq (List.toArray (.int (ks[i]).1 t1 :: .int (ks[i]).2 t2 :: x :: xs)) n := fun i hi => by
  obtain ⟨a, o, xs, n, t1, t2, x, e1, e2, e3, e4⟩ := hk i hi
  exact ⟨a, o, xs, n, t1, t2, x, e1, (N' (a, o) (.tail _ e2)).1, e3, e4⟩
 obtain ⟨fs, hT, hfl, hfi⟩ := katTups_of vs fun v hv => by
  obtain ⟨i, hi, rfl⟩ := List.getElem_of_mem hv
  obtain ⟨a, o, xs, n, t1, t2, x, e1, e2, e3, e4⟩ := hk' i (by w_how)
  rw [List.getElem?_eq_getElem hi] at e1
  exact ⟨a, o, _, n, (ks[i]'(by w_how)).1, t1, Option.some.inj e1, e2, e3, e4, by simp⟩
 refine kat_kind hT (by w_how) (T := .type "int") (fun v hv => ?_) (by decide) ?_
 ·obtain ⟨k, t, rfl⟩ := hfi v hv
  exact Looks.of_pure rfl
 have O : LtOk vs.length (fun i j => lex2 (ks.getD i (0, 0)) (ks.getD j (0, 0))) := by
  refine ⟨fun i hi => by simp [lex2], fun i j k _ _ _ h1 h2 => ?_, fun i j hi hj hij => ?_⟩
  ·simp only [lex2, decide_eq_true_eq] at h1 h2 ⊢
   w_how
  ·have hne : (ks.getD i (0, 0)).2 ≠ (ks.getD j (0, 0)).2 := key2_ne hnd (by w_how) (by w_how) hij
   simp only [lex2, decide_eq_true_eq]
   w_how
 refine srt_sort O (fun i j hi hj hij C hC => ?_) (by w_how) (fun q hq hs => ?_)
 ·obtain ⟨a, o, xs, n, t1, t2, x, e1, e2, e3, e4⟩ := hk' i (by w_how)
  obtain ⟨b, o', ys, n', u1, u2, y, g1, g2, g3, g4⟩ := hk' j (by w_how)
  unfold kas_ask
  have ki : ks.getD i (0, 0) = ks[i]'(by w_how) := by rw [List.getD_eq_getElem?_getD, List.getElem?_eq_getElem (by w_how), Option.getD_some]
  have kj : ks.getD j (0, 0) = ks[j]'(by w_how) := by rw [List.getD_eq_getElem?_getD, List.getElem?_eq_getElem (by w_how), Option.getD_some]
  have hne : (ks[i]'(by w_how)).2 ≠ (ks[j]'(by w_how)).2 := by
   have := key2_ne hnd (i := i) (j := j) (by w_how) (by w_how) hij
   rwa [ki, kj] at this
  have hlt : lex2 (ks.getD i (0, 0)) (ks.getD j (0, 0)) = lex2 (ks[i]'(by w_how)) (ks[j]'(by w_how)) := by
   rw [ki, kj]
  dsimp only at hC
  rw [hlt] at hC
  rw [show vs.getD i Value.none = .ref a by simp [List.getD_eq_getElem?_getD, e1], show vs.getD j Value.none = .ref b by simp [List.getD_eq_getElem?_getD, g1]]
  refine kat_lt e2 e4 g2 g4 ?_
  refine kat_cons (wpAny_eqBool_int ?_)
  refine kat_go (fun h => kat_yes ?_) (fun h => kat_no ?_)
  ·refine kat_cons (wpAny_eqBool_int ?_)
   refine kat_go (fun h' => ?_) (fun h' => kat_no ?_)
   ·exact absurd (by simpa using h') hne
   ·refine kat_one _ _ (lt_int ?_)
    have e9 : lex2 (ks[i]'(by w_how)) (ks[j]'(by w_how)) = decide ((ks[i]'(by w_how)).2 < (ks[j]'(by w_how)).2) := by
     have : (ks[i]'(by w_how)).1 = (ks[j]'(by w_how)).1 := by simpa using h
     unfold lex2
     rw [this]
     simp
    rw [e9] at hC
    exact hC
  ·refine oneLt_int ?_
   have e9 : lex2 (ks[i]'(by w_how)) (ks[j]'(by w_how)) = decide ((ks[i]'(by w_how)).1 < (ks[j]'(by w_how)).1) := by
    have : (ks[i]'(by w_how)).1 ≠ (ks[j]'(by w_how)).1 := by simpa using h
    unfold lex2
    simp [this]
   rw [e9] at hC
   exact hC
 ·refine KasFin.intro F' N' (UpdF.head fun p hp => Nat.ne_of_lt (l1 p hp)) fun h2 c F2 N2 => h D c h2 q.toList (by rw [← hlen]; exact hq) ?_ F2 N2 l1
  rw [List.pairwise_map, List.pairwise_iff_getElem]
  intro i j hi hj hij
  have := hs i j hij (by have := hq.size; simpa [this] using hj)
  have h1 : i < q.size := by simpa using hi
  have h2 : j < q.size := by simpa using hj
  simpa [pg, Array.getD, h1, h2] using this
end

end
theorem In_F0.in_F0 : True := trivial
noncomputable section
open In_F0 Off9 Noi9
section
variable {prog : Program} {w : World} {A : Around} {E : Value → Shared → Prop} {s : Shared} {h₀ : Heap} {L l a b : Addr} {m : Str → Option Value} {news r : Led} {vs ws : List Value} {n k : Nat} {ds es : List Dat}
theorem my_neNilT {Q : Value → Shared → Prop} (N : News h₀ L s.heap news) (ma : (a, listOf vs.toArray n) ∈ news) (mb : (b, listOf (List.toArray ([] : List Value)) k) ∈ news) (hb : 0 < vs.length) (hu : A.units + 64 < cLine) (Da : DatAll r vs ds) (sa : ∀ p ∈ r, p ∈ news) (ok : ∀ d ∈ ds, kqdOk 8 d = true) (h : Q (.bool true) s) :
  wpAny (model prog w) A (compareOp .NotEq (.ref a) (.ref b)) Q E s := by
 refine kqd_ne (xs := vs) (ys := []) (n₂ := []) N ma rfl rfl Da sa mb rfl rfl .nil (fun _ h => nomatch h) ok (fun _ h => nomatch h) hu ?_
 rw [decide_eq_false (fun e => by have := Da.length; rw [e] at this; simp at this; rw [this] at hb; simp at hb)]
 exact h
theorem my_neNilF {Q : Value → Shared → Prop} (N : News h₀ L s.heap news) (ma : (a, listOf vs.toArray n) ∈ news) (mb : (b, listOf (List.toArray ([] : List Value)) k) ∈ news) (hb : vs.length = 0) (hu : A.units + 64 < cLine) (h : Q (.bool false) s) :
  wpAny (model prog w) A (compareOp .NotEq (.ref a) (.ref b)) Q E s := by
 have e : vs = [] := List.eq_nil_of_length_eq_zero hb
 subst e
 refine kqd_ne (xs := []) (ys := []) (n₁ := []) (n₂ := []) N ma rfl rfl .nil (fun _ h => nomatch h) mb rfl rfl .nil (fun _ h => nomatch h) (fun _ h => nomatch h) (fun _ h => nomatch h) hu ?_
 rw [decide_eq_true rfl]
 exact h
theorem my_eqNilF {Q : Value → Shared → Prop} (N : News h₀ L s.heap news) (ma : (a, listOf vs.toArray n) ∈ news) (mb : (b, listOf (List.toArray ([] : List Value)) k) ∈ news) (hb : 0 < vs.length) (hu : A.units + 64 < cLine) (Da : DatAll r vs ds) (sa : ∀ p ∈ r, p ∈ news) (ok : ∀ d ∈ ds, kqdOk 8 d = true) (h : Q (.bool false) s) :
  wpAny (model prog w) A (compareOp .Eq (.ref a) (.ref b)) Q E s := by
 refine kqd_eq (xs := vs) (ys := []) (n₂ := []) N ma rfl rfl Da sa mb rfl rfl .nil (fun _ h => nomatch h) ok (fun _ h => nomatch h) hu ?_
 rw [decide_eq_false (fun e => by have := Da.length; rw [e] at this; simp at this; rw [this] at hb; simp at hb)]
 exact h
theorem my_eqNilT {Q : Value → Shared → Prop} (N : News h₀ L s.heap news) (ma : (a, listOf vs.toArray n) ∈ news) (mb : (b, listOf (List.toArray ([] : List Value)) k) ∈ news) (hb : vs.length = 0) (hu : A.units + 64 < cLine) (h : Q (.bool true) s) :
  wpAny (model prog w) A (compareOp .Eq (.ref a) (.ref b)) Q E s := by
 have e : vs = [] := List.eq_nil_of_length_eq_zero hb
 subst e
 refine kqd_eq (xs := []) (ys := []) (n₁ := []) (n₂ := []) N ma rfl rfl .nil (fun _ h => nomatch h) mb rfl rfl .nil (fun _ h => nomatch h) (fun _ h => nomatch h) (fun _ h => nomatch h) hu ?_
 rw [decide_eq_true rfl]
 exact h
theorem my_itemX {xs : List Str} {i : Int} {u : Tok} {value slice : PySem.Expr} {Q : Value → Shared → Prop} (N : News h₀ L s.heap news) (hm : (l, listOf vs.toArray n) ∈ news) (D : DatAll r vs (xs.map Dat.str)) (h0 : 0 ≤ i) (hk : i < xs.length) (hz : xs.length < 16000000) (h : ∀ x t, x ∈ xs → Q (.str x t) s)
  (hs : subscripted slice false (.ref l) (.int i u) = operate [.ref l, .int i u] (getItem (.ref l) (.int i u)) := by with_unfolding_all rfl) :
  wpAny (model prog w) A (subscriptTail value slice (.ref l) (.int i u)) Q E s := by
 refine my_itemD N hm D h0 (by rw [List.length_map]; w_how) (by rw [List.length_map]; w_how) (fun v hv => ?_) hs
 rw [List.getElem_map] at hv
 cases hv with
 |str _ t => exact h _ t (List.getElem_mem ..)
theorem my_drop {xs : List Str} {i : Int} {u : Tok} {value slice : PySem.Expr} {Q : Value → Shared → Prop} (F : Fr h₀ L s.heap m) (N : News h₀ L s.heap news) (hm : (l, listOf vs.toArray n) ∈ news) (D : DatAll r vs (xs.map Dat.str)) (h0 : 0 ≤ i) (hz : xs.length < 16000000)
  (h : ∀ D h' ws, Fr h₀ L h' m → News h₀ L h' ((D, listOf ws.toArray 0) :: news) → (∀ p ∈ news, @LT.lt Nat _ p.1 D) → DatAll r ws ((xs.drop i.toNat).map Dat.str) → ws.length = xs.length - i.toNat → Q (.ref D) { s with heap := h' })
  (hs : subscripted slice false (.ref l) (.ref s.heap.objs.size) = operate [.ref s.heap.objs.size, .ref l] (getItem (.ref l) (.ref s.heap.objs.size))) :
  wpAny (model prog w) A (subscriptTail value slice (.ref l) (.ref s.heap.objs.size)) Q E { s with heap := s.heap.push { cls := .type "slice", data := .fields #[.int i u, .none, .none] } } := by
 have hl : vs.length = xs.length := by rw [D.length, List.length_map]
 refine kba_turn (value' := PySem.Expr.Name (PySem.Str.ofString "_") ⟨0, 0, 0, 0⟩) (fun _ => rfl) ?_
 refine kms_slice_lit (zs := vs.drop i.toNat) F N (News.isList N hm) (IsPart.int _ _) IsPart.none ?_ (fun D9 h' F' N' l1 => h D9 h' _ F' N' l1 ?_ (by rw [List.length_drop, hl])) hs (fun _ => rfl) (by rw [List.size_toArray, sizeLine_eq]; w_how)
 ·show (vs.drop (kms_lo (some i) vs.length)).take (vs.length - kms_lo (some i) vs.length) = vs.drop i.toNat
  have e : kms_lo (some i) vs.length = min i.toNat vs.length := by
   show (if i < 0 then _ else _) = _
   rw [if_neg (by w_how)]
  rw [e, List.take_of_length_le (by rw [List.length_drop]; w_how), kmk_drop_min]
 ·have cut : ∀ {vs : List Value} {es : List Dat} (c : Nat), DatAll r vs es → DatAll r (vs.drop c) (es.drop c) := by
   intro vs
   induction vs with
   |nil => intro es c h; cases h; simp only [List.drop_nil]; exact .nil
   |cons v vs ih =>
    intro es c h
    cases h with
    |cons h1 h2 =>
     cases c with
     |zero => exact .cons h1 h2
     |succ c => exact ih c h2
  rw [List.map_drop]
  exact cut _ D
theorem my_addD {Q : Value → Shared → Prop} (F : Fr h₀ L s.heap m) (N : News h₀ L s.heap news) (ha : (a, listOf vs.toArray n) ∈ news) (hb : (b, listOf ws.toArray k) ∈ news) (hz : vs.length + ws.length < 1000000)
  (h : ∀ D h', Fr h₀ L h' m → News h₀ L h' ((D, listOf (vs ++ ws).toArray 0) :: news) → (∀ p ∈ news, @LT.lt Nat _ p.1 D) → Q (.ref D) { s with heap := h' }) : wpAny (model prog w) A (binaryOp .Add (.ref a) (.ref b)) Q E s :=
 kmk_add_lit F N (News.isList N ha) (News.isList N hb) rfl (fun D h' F' N' l1 => h D h' F' N' l1) (by show vs.length + ws.length ≤ _; rw [sizeLine_eq]; w_how)
end
theorem fmod_pos {a b : Int} (hb : 0 < b) : 0 ≤ a.fmod b ∧ a.fmod b < b := ⟨Int.fmod_nonneg_of_pos a hb, Int.fmod_lt_of_pos a hb⟩
theorem my_mod {prog : Program} {w : World} {A : Around} {E : Value → Shared → Prop} {s : Shared} {a b : Int} {t u : Tok} {Q : Value → Shared → Prop} (hb : 0 < b) (h : ∀ c, 0 ≤ c → c < b → Q (.int c s.toks) { s with toks := s.toks + 1 }) : wpAny (model prog w) A (binaryOp .Mod (.int a t) (.int b u)) Q E s :=
 mod_int' (by w_how) (h _ (fmod_pos hb).1 (fmod_pos hb).2)
theorem names_ok : ∀ x ∈ sNames, PyData.strOk x = true := by decide +kernel
theorem names_len : sNames.length = 5 := rfl
theorem names_ok_drop (i : Nat) : ∀ d ∈ (sNames.drop i).map Dat.str, kqdOk 8 d = true := fun d hd => by
 obtain ⟨x, hx, rfl⟩ := List.mem_map.mp hd
 exact names_ok x (List.mem_of_mem_drop hx)

end
theorem words_F0 : True := by
 k_with "my compareOp NotEq ref ref" => (k_here; (with_reducible show wpAny _ _ (compareOp _ (Value.ref _) (Value.ref _)) _ _ _); k_dflt (first | (refine my_neNilF (by k_asm) (by k_mem) (by k_mem) (by k_extra "lq") (by ke_room) ?_) | (refine my_neNilT (by k_asm) (by k_mem) (by k_mem) (by w_how) (by ke_room) (by with_reducible assumption) (by first | assumption | kqd_sub) (by first | assumption | exact names_ok_drop _) ?_) | (refine my_neNilF (by k_asm) (by k_mem) (by k_mem) (by w_how) (by ke_room) ?_)))
 k_with "my compareOp Eq ref ref" => (k_here; (with_reducible show wpAny _ _ (compareOp _ (Value.ref _) (Value.ref _)) _ _ _); k_dflt (first | (refine my_eqNilT (by k_asm) (by k_mem) (by k_mem) (by k_extra "lq") (by ke_room) ?_) | (refine my_eqNilF (by k_asm) (by k_mem) (by k_mem) (by w_how) (by ke_room) (by with_reducible assumption) (by first | assumption | kqd_sub) (by first | assumption | exact names_ok_drop _) ?_) | (refine my_eqNilT (by k_asm) (by k_mem) (by k_mem) (by w_how) (by ke_room) ?_)))
 k_with "my subscriptTail" => (k_here; (with_reducible show wpAny _ _ (subscriptTail _ _ (Value.ref _) (Value.int _ _)) _ _ _); k_dflt (refine my_itemX (by k_asm) (by k_mem) (by with_reducible assumption) (by w_how) (by first | w_how | (simp only [List.length_drop, names_len]; w_how)) (by first | w_how | (simp only [List.length_drop, names_len]; w_how)) ?_ (by with_unfolding_all rfl)); intro x9 t9 hx9)
 k_with "my subscriptTail Name BinOp ref int" => (k_here; (with_reducible show wpAny _ _ (subscriptTail _ _ (Value.ref _) (Value.int _ _)) _ _ _); k_dflt (refine my_itemX (by k_asm) (by k_mem) (by with_reducible assumption) (by w_how) (by first | w_how | (simp only [List.length_drop, names_len]; w_how)) (by first | w_how | (simp only [List.length_drop, names_len]; w_how)) ?_ (by with_unfolding_all rfl)); intro x9 t9 hx9)
 k_with "my subscriptTail Name Name ref int" => (k_here; (with_reducible show wpAny _ _ (subscriptTail _ _ (Value.ref _) (Value.int _ _)) _ _ _); k_dflt (refine my_itemX (by k_asm) (by k_mem) (by with_reducible assumption) (by w_how) (by first | w_how | (simp only [List.length_drop, names_len]; w_how)) (by first | w_how | (simp only [List.length_drop, names_len]; w_how)) ?_ (by with_unfolding_all rfl)); intro x9 t9 hx9)
 k_with "my subscriptTail Name Slice ref ref" => (k_here; (with_reducible show wpAny _ _ (subscriptTail _ _ (Value.ref _) (Value.ref _)) _ _ _); k_dflt (refine my_drop (by k_asm) (by k_asm) (by k_mem) (by with_reducible assumption) (by w_how) (by first | w_how | (simp only [names_len, List.length_drop]; w_how)) ?_ (by with_unfolding_all rfl)); intro D9 h9 ws9 F9 N9 l9 hd9 hw9; (try simp only [names_len] at hw9))
 k_with "my binaryOp Add ref ref" => (k_here; (with_reducible show wpAny _ _ (binaryOp _ (Value.ref _) (Value.ref _)) _ _ _); k_dflt (refine my_addD (by k_asm) (by k_asm) (by k_mem) (by k_mem) (by first | w_how | (simp only [List.length_cons, List.length_nil]; w_how)) ?_); intro D9 h9 F9 N9 l9)
 trivial
theorem In_F1.in_F1 : True := trivial
noncomputable section
open In_F1
namespace law_names_h
noncomputable abbrev T9 : Type := Program × World × (ExcName → Option Value) × (Str → Option Value) × (Str → Option Value) × Led × Cx
noncomputable def S9 (prog : Program) (w : World) (mean : ExcName → Option Value) (mg : Str → Option Value) (mb : Str → Option Value) (news : Led) (x9 : Cx) : Prop :=
 Does.at prog w mean mg mb 543 [] 1 10 news (fun v l => ∃ D vs n, v = .ref D ∧ (∀ p ∈ news, p.1 < D) ∧ DatAll [] vs (sNames.map Dat.str) ∧ l = (D, listOf vs.toArray n) :: news) x9.1 x9.2.1 x9.2.2.1 x9.2.2.2.1 x9.2.2.2.2.1 x9.2.2.2.2.2.1 x9.2.2.2.2.2.2.1 x9.2.2.2.2.2.2.2.1 x9.2.2.2.2.2.2.2.2.1 x9.2.2.2.2.2.2.2.2.2.1 x9.2.2.2.2.2.2.2.2.2.2.1 x9.2.2.2.2.2.2.2.2.2.2.2.1 x9.2.2.2.2.2.2.2.2.2.2.2.2.1 x9.2.2.2.2.2.2.2.2.2.2.2.2.2.1 x9.2.2.2.2.2.2.2.2.2.2.2.2.2.2.1 x9.2.2.2.2.2.2.2.2.2.2.2.2.2.2.2.1 x9.2.2.2.2.2.2.2.2.2.2.2.2.2.2.2.2
noncomputable def P9 : T9 → Prop := cur fun prog => cur fun w => cur fun mean => cur fun mg => cur fun mb => cur fun news => fun x9 => S9 prog w mean mg mb news x9
theorem ex9 : ∃ x, P9 x → ∀ y, P9 y := drinker P9 (PySem.Challenge.rw_np0139_01.prog, w0, default, default, default, default, cx0)
@[irreducible] def c9 : T9 := Classical.choose ex9
@[irreducible] def prog := c9.1
@[irreducible] def w := c9.2.1
@[irreducible] def mean := c9.2.2.1
@[irreducible] def mg := c9.2.2.2.1
@[irreducible] def mb := c9.2.2.2.2.1
@[irreducible] def news := c9.2.2.2.2.2.1
@[irreducible] def x9 := c9.2.2.2.2.2.2
theorem core9 : S9 prog w mean mg mb news x9 := by
 refine wr_z (by
 intro B F X T N hk hdp hu hret
 refine wpAny_call ?_
 k_dflt ktr_enter
 f_tup
 k_steps
 refine hret _ _ _ _ (by assumption) (by assumption) ⟨_, _, _, rfl, lt_sub (by assumption) (fun _ h => h), ?_, rfl⟩
 exact .cons (.str _ _) (.cons (.str _ _) (.cons (.str _ _) (.cons (.str _ _) (.cons (.str _ _) .nil))))
 ) ?_
 intro q f
 simpa using f (default : (by exact Fin 1))
theorem ok9 : ∀ y, P9 y := Classical.choose_spec ex9 (by with_unfolding_all exact core9)
end law_names_h
theorem law_names_does {prog : Program} {w : World} {mean : ExcName → Option Value} {mg mb : Str → Option Value} {news : Led} :
  Does prog w mean mg mb 543 [] 1 10 news (fun v l => ∃ D vs n, v = .ref D ∧ (∀ p ∈ news, p.1 < D) ∧ DatAll [] vs (sNames.map Dat.str) ∧ l = (D, listOf vs.toArray n) :: news) := by
 intros dp un gd cn cs a ccd cl outer A₀ base h₀ L m s Q E
 exact law_names_h.ok9 (prog, w, mean, mg, mb, news, (dp, un, gd, cn, cs, a, ccd, cl, outer, A₀, base, h₀, L, m, s, Q, E)) 
namespace law_wait_h
noncomputable abbrev T9 : Type := Program × World × (ExcName → Option Value) × (Str → Option Value) × (Str → Option Value) × Led × Int × Tok × Cx
noncomputable def S9 (prog : Program) (w : World) (mean : ExcName → Option Value) (mg : Str → Option Value) (mb : Str → Option Value) (news : Led) (n : Int) (t : Tok) (x9 : Cx) : Prop :=
 Does.at prog w mean mg mb 550 [.int n t] 1 10 news (fun v l => ∃ k t', v = .int k t' ∧ l = news) x9.1 x9.2.1 x9.2.2.1 x9.2.2.2.1 x9.2.2.2.2.1 x9.2.2.2.2.2.1 x9.2.2.2.2.2.2.1 x9.2.2.2.2.2.2.2.1 x9.2.2.2.2.2.2.2.2.1 x9.2.2.2.2.2.2.2.2.2.1 x9.2.2.2.2.2.2.2.2.2.2.1 x9.2.2.2.2.2.2.2.2.2.2.2.1 x9.2.2.2.2.2.2.2.2.2.2.2.2.1 x9.2.2.2.2.2.2.2.2.2.2.2.2.2.1 x9.2.2.2.2.2.2.2.2.2.2.2.2.2.2.1 x9.2.2.2.2.2.2.2.2.2.2.2.2.2.2.2.1 x9.2.2.2.2.2.2.2.2.2.2.2.2.2.2.2.2
noncomputable def P9 : T9 → Prop := cur fun prog => cur fun w => cur fun mean => cur fun mg => cur fun mb => cur fun news => cur fun n => cur fun t => fun x9 => S9 prog w mean mg mb news n t x9
theorem ex9 : ∃ x, P9 x → ∀ y, P9 y := drinker P9 (PySem.Challenge.rw_np0139_01.prog, w0, default, default, default, default, default, default, cx0)
@[irreducible] def c9 : T9 := Classical.choose ex9
@[irreducible] def prog := c9.1
@[irreducible] def w := c9.2.1
@[irreducible] def mean := c9.2.2.1
@[irreducible] def mg := c9.2.2.2.1
@[irreducible] def mb := c9.2.2.2.2.1
@[irreducible] def news := c9.2.2.2.2.2.1
@[irreducible] def n := c9.2.2.2.2.2.2.1
@[irreducible] def t := c9.2.2.2.2.2.2.2.1
@[irreducible] def x9 := c9.2.2.2.2.2.2.2.2
theorem core9 : S9 prog w mean mg mb news n t x9 := by
 refine wr_z (by
 intro B F X T N hk hdp hu hret
 refine wpAny_call ?_
 k_dflt ktr_enter
 f_tup
 k_steps
 rename News _ _ _ _ => N9
 rename Fr _ _ _ _ => F9
 exact hret _ _ _ _ F9 (news_tail N9) ⟨_, _, rfl, rfl⟩
 ) ?_
 intro q f
 simpa using f (default : (by exact Fin 1))
theorem ok9 : ∀ y, P9 y := Classical.choose_spec ex9 (by with_unfolding_all exact core9)
end law_wait_h
theorem law_wait_does {prog : Program} {w : World} {mean : ExcName → Option Value} {mg mb : Str → Option Value} {news : Led} {n : Int} {t : Tok} :
  Does prog w mean mg mb 550 [.int n t] 1 10 news (fun v l => ∃ k t', v = .int k t' ∧ l = news) := by
 intros dp un gd cn cs a ccd cl outer A₀ base h₀ L m s Q E
 exact law_wait_h.ok9 (prog, w, mean, mg, mb, news, n, t, (dp, un, gd, cn, cs, a, ccd, cl, outer, A₀, base, h₀, L, m, s, Q, E)) 
namespace law_what_h
noncomputable abbrev T9 : Type := Program × World × (ExcName → Option Value) × (Str → Option Value) × (Str → Option Value) × Led × Int × Tok × Cx
noncomputable def S9 (prog : Program) (w : World) (mean : ExcName → Option Value) (mg : Str → Option Value) (mb : Str → Option Value) (news : Led) (n : Int) (t : Tok) (x9 : Cx) : Prop :=
 Does.at prog w mean mg mb 557 [.int n t] 2 20 news (fun v l => ∃ x t', v = .str x t' ∧ l = news) x9.1 x9.2.1 x9.2.2.1 x9.2.2.2.1 x9.2.2.2.2.1 x9.2.2.2.2.2.1 x9.2.2.2.2.2.2.1 x9.2.2.2.2.2.2.2.1 x9.2.2.2.2.2.2.2.2.1 x9.2.2.2.2.2.2.2.2.2.1 x9.2.2.2.2.2.2.2.2.2.2.1 x9.2.2.2.2.2.2.2.2.2.2.2.1 x9.2.2.2.2.2.2.2.2.2.2.2.2.1 x9.2.2.2.2.2.2.2.2.2.2.2.2.2.1 x9.2.2.2.2.2.2.2.2.2.2.2.2.2.2.1 x9.2.2.2.2.2.2.2.2.2.2.2.2.2.2.2.1 x9.2.2.2.2.2.2.2.2.2.2.2.2.2.2.2.2
noncomputable def P9 : T9 → Prop := cur fun prog => cur fun w => cur fun mean => cur fun mg => cur fun mb => cur fun news => cur fun n => cur fun t => fun x9 => S9 prog w mean mg mb news n t x9
theorem ex9 : ∃ x, P9 x → ∀ y, P9 y := drinker P9 (PySem.Challenge.rw_np0139_01.prog, w0, default, default, default, default, default, default, cx0)
@[irreducible] def c9 : T9 := Classical.choose ex9
@[irreducible] def prog := c9.1
@[irreducible] def w := c9.2.1
@[irreducible] def mean := c9.2.2.1
@[irreducible] def mg := c9.2.2.2.1
@[irreducible] def mb := c9.2.2.2.2.1
@[irreducible] def news := c9.2.2.2.2.2.1
@[irreducible] def n := c9.2.2.2.2.2.2.1
@[irreducible] def t := c9.2.2.2.2.2.2.2.1
@[irreducible] def x9 := c9.2.2.2.2.2.2.2.2
abbrev a := x9.2.2.2.2.2.1
theorem core9 : S9 prog w mean mg mb news n t x9 := by
 refine wr_z (by
 intro B F X T N hk hdp hu hret
 refine wpAny_call ?_
 k_dflt ktr_enter
 k_with "call ref" => ((fail_if_success (fail_if_success (have h9 := in_F1))); ((refine Stop.out ?_)))
 k_with "subscriptTail" => ((fail_if_success (fail_if_success (have h9 := in_F1))); ((refine Stop.out ?_)))
 f_tup
 k_steps
 refine Stop.mk ?_
 f_tup
 refine Does.use (by k_asm) (by k_asm) (by k_asm) (by k_asm) (by k_asm) rfl law_names_does (by ktr_room) (by ktr_units) ?_
 intro r9 h9 tk9 news9 F9 N9
 (km_mul D9; km_mul vs9; km_mul n9; k_extra "st"; k_extra "sr"; km_mul l9; km_mul hd9; k_extra "sr")
 f_tup
 have hw9 : vs9.length = 5 := hd9.length
 have hf := fmod_pos (a := n) (b := 10) (by decide)
 f_tup
 k_steps
 refine Stop.mk ?_
 f_tup
 refine my_itemX (xs := sNames ++ [_, _, _, _, _]) (by k_asm) (by k_mem) (by rw [List.map_append]; exact hd9.append (.cons (.str _ _) (.cons (.str _ _) (.cons (.str _ _) (.cons (.str _ _) (.cons (.str _ _) .nil)))))) hf.1 (by show n.fmod 10 < (10 : Int); exact hf.2) (by show (10 : Nat) < _; decide) ?_ (by with_unfolding_all rfl)
 intro x t' _
 f_tup
 k_steps
 rename News _ _ _ _ => N8
 exact hret _ _ _ _ (by assumption) (news_tail (news_tail (news_tail N8))) ⟨_, _, rfl, rfl⟩
 ) ?_
 intro q f
 simpa using f (default : (by exact Fin 1))

theorem ok9 : ∀ y, P9 y := Classical.choose_spec ex9 (by with_unfolding_all exact core9)
end law_what_h
theorem law_what_does {prog : Program} {w : World} {mean : ExcName → Option Value} {mg mb : Str → Option Value} {news : Led} {n : Int} {t : Tok} :
  Does prog w mean mg mb 557 [.int n t] 2 20 news (fun v l => ∃ x t', v = .str x t' ∧ l = news) := by
 intros dp un gd cn cs a ccd cl outer A₀ base h₀ L m s Q E
 exact law_what_h.ok9 (prog, w, mean, mg, mb, news, n, t, (dp, un, gd, cn, cs, a, ccd, cl, outer, A₀, base, h₀, L, m, s, Q, E)) 
end
theorem words_F1 : True := by
 k_with "my call ref" => (k_here; (with_reducible show wpAny _ _ (call (Value.ref 550) _) _ _ _); k_dflt (refine Does.use (by k_asm) (by k_asm) (by k_asm) (by k_asm) (by k_asm) (by first | exact rfl | assumption) law_wait_does (by ktr_room) (by ktr_units) ?_); intro r9 h9 tk9 news9 F9 N9 hp9; obtain ⟨k9, t9, e9, e9'⟩ := hp9; subst e9; subst e9'; (try dsimp only))
 k_with "my call ref" => (k_here; (with_reducible show wpAny _ _ (call (Value.ref 557) _) _ _ _); k_dflt (refine Does.use (by k_asm) (by k_asm) (by k_asm) (by k_asm) (by k_asm) (by first | exact rfl | assumption) law_what_does (by ktr_room) (by ktr_units) ?_); intro r9 h9 tk9 news9 F9 N9 hp9; obtain ⟨k9, t9, e9, e9'⟩ := hp9; subst e9; subst e9'; (try dsimp only))
 k_with "my call ref" => (k_here; (with_reducible show wpAny _ _ (call (Value.ref 543) _) _ _ _); k_dflt (refine Does.use (by k_asm) (by k_asm) (by k_asm) (by k_asm) (by k_asm) (by first | exact rfl | assumption) law_names_does (by ktr_room) (by ktr_units) ?_); intro r9 h9 tk9 news9 F9 N9 hp9; obtain ⟨D9, vs9, n9, e9, l9, hd9, e9'⟩ := hp9; subst e9; subst e9'; (try k_lt l9); (have hw9 := hd9.length); (simp only [List.length_map, names_len] at hw9); (try dsimp only))
 trivial
theorem wordse_F1 : True := by
 k_with "my call ref" => ((fail_if_success (have h9 := noeps9)); ((k_here; (with_reducible show wpAny _ _ (call (Value.ref 550) _) _ _ _); k_dflt (refine Does.use (by k_asm) (by k_asm) (by k_asm) (by k_asm) (by k_asm) (by first | exact rfl | assumption) law_wait_does (by ktr_room) (by ktr_units) ?_); intro r9 h9 tk9 news9 F9 N9 hp9; (first | (revert hp9; km_mul k9; km_mul t9; km_mul e9; intro e9') | (obtain ⟨k9, t9, e9, e9'⟩ := hp9)); subst e9; subst e9'; (try dsimp only))))
 k_with "my call ref" => ((fail_if_success (have h9 := noeps9)); ((k_here; (with_reducible show wpAny _ _ (call (Value.ref 557) _) _ _ _); k_dflt (refine Does.use (by k_asm) (by k_asm) (by k_asm) (by k_asm) (by k_asm) (by first | exact rfl | assumption) law_what_does (by ktr_room) (by ktr_units) ?_); intro r9 h9 tk9 news9 F9 N9 hp9; (first | (revert hp9; km_mul k9; km_mul t9; km_mul e9; intro e9') | (obtain ⟨k9, t9, e9, e9'⟩ := hp9)); subst e9; subst e9'; (try dsimp only))))
 k_with "my call ref" => ((fail_if_success (have h9 := noeps9)); ((k_here; (with_reducible show wpAny _ _ (call (Value.ref 543) _) _ _ _); k_dflt (refine Does.use (by k_asm) (by k_asm) (by k_asm) (by k_asm) (by k_asm) (by first | exact rfl | assumption) law_names_does (by ktr_room) (by ktr_units) ?_); intro r9 h9 tk9 news9 F9 N9 hp9; (first | (revert hp9; km_mul D9; km_mul vs9; km_mul n9; km_mul e9; km_mul l9; km_mul hd9; intro e9') | (obtain ⟨D9, vs9, n9, e9, l9, hd9, e9'⟩ := hp9)); subst e9; subst e9'; (try k_lt l9); (have hw9 := hd9.length); (simp only [List.length_map, names_len] at hw9); (try dsimp only))))
 trivial
theorem In_F2.in_F2 : True := trivial
noncomputable section
open In_F2
noncomputable def DoesS.at (prog : Program) (w : World) (mean : ExcName → Option Value) (mg mb : Str → Option Value) (sl : Addr) (svs : List Value) (f : Addr) (vs : List Value) (dd uu : Nat) (news : Led) (P : Value → Led → Prop)
  (dp un : Nat) (gd : Option (List Code)) (cn : Str) (cs : Scope) (a : Addr) (ccd : Value) (cl : List (Str × Addr)) (outer : List Env) (A₀ : Around) (base h₀ : Heap) (L : Addr) (m : Str → Option Value) (s : Shared) (Q E : Value → Shared → Prop) : Prop :=
  h₀.IsList sl svs.toArray → Below A₀ base outer h₀ → Fr h₀ L s.heap m → (K9 w.params).In h₀ → Top view9 lse mean mg mb h₀ → News h₀ L s.heap news → cs.kind = .function → dp + dd < recursionLimit → un + uu < cLine →
  (∀ r h' tk' news', Fr h₀ L h' m → News h₀ L h' news' → P r news' → Q r { s with heap := h', toks := tk' }) →
  wpAny (model prog w) (ktrTop dp un gd cn cs L a ccd cl outer) (call (.ref f) vs) Q E s
noncomputable def DoesS (prog : Program) (w : World) (mean : ExcName → Option Value) (mg mb : Str → Option Value) (sl : Addr) (svs : List Value) (f : Addr) (vs : List Value) (dd uu : Nat) (news : Led) (P : Value → Led → Prop) : Prop :=
 ∀ (dp un : Nat) (gd : Option (List Code)) (cn : Str) (cs : Scope) (a : Addr) (ccd : Value) (cl : List (Str × Addr)) (outer : List Env) (A₀ : Around) (base h₀ : Heap) (L : Addr) (m : Str → Option Value) (s : Shared) (Q E : Value → Shared → Prop),
  h₀.IsList sl svs.toArray → Below A₀ base outer h₀ → Fr h₀ L s.heap m → (K9 w.params).In h₀ → Top view9 lse mean mg mb h₀ → News h₀ L s.heap news → cs.kind = .function → dp + dd < recursionLimit → un + uu < cLine →
  (∀ r h' tk' news', Fr h₀ L h' m → News h₀ L h' news' → P r news' → Q r { s with heap := h', toks := tk' }) →
  wpAny (model prog w) (ktrTop dp un gd cn cs L a ccd cl outer) (call (.ref f) vs) Q E s
section
variable {prog : Program} {w : World} {A : Around} {E : Value → Shared → Prop} {s : Shared} {h₀ : Heap} {L l : Addr} {m : Str → Option Value} {vs : List Value} {ns : List Int}
theorem my_lenS {Q : Value → Shared → Prop} (F : Fr h₀ L s.heap m) (hS : h₀.IsList l vs.toArray) (hI : IntsAre vs ns) (hz : ns.length < 16000000) (h : Q (.int ns.length (s.toks + 1)) { s with toks := s.toks + 1 + 1 }) :
  wpAny (model prog w) A (call (.builtin "len") [.ref l]) Q E s :=
 len_list (F.lst hS) (by rw [List.size_toArray, hI.length]; w_how) (by rw [List.size_toArray, hI.length]; exact h)
theorem my_itemS {k : Int} {u : Tok} {value slice : PySem.Expr} {Q : Value → Shared → Prop} (F : Fr h₀ L s.heap m) (hS : h₀.IsList l vs.toArray) (hI : IntsAre vs ns) (hz : ns.length < 16000000) (h0 : 0 ≤ k) (hk : k < ns.length) (h : ∀ n t, Q (.int n t) s)
  (hs : subscripted slice false (.ref l) (.int k u) = operate [.ref l, .int k u] (getItem (.ref l) (.int k u)) := by with_unfolding_all rfl) :
  wpAny (model prog w) A (subscriptTail value slice (.ref l) (.int k u)) Q E s := by
 have hl := F.lst hS
 have hv : ∃ n t, vs[k.toNat]? = some (.int n t) := by
  have h1 : k.toNat < vs.length := by rw [hI.length]; w_how
  obtain ⟨n, t, e, _⟩ := hI.at k.toNat vs[k.toNat] (by simp [h1])
  exact ⟨n, t, by simp [h1, e]⟩
 obtain ⟨n, t, hv⟩ := hv
 exact tail_any hl.typeIs slot_list_getitem.lookup (wpAny_getItem_list hl h0 (by w_how) (by simpa using hv) (h n t)) hs
end
theorem wrd_F2_1 : True := by
 k_with "my call builtin:len" => ((fail_if_success (fail_if_success (have h9 := in_F2))); ((k_here; (with_reducible show wpAny _ _ (call (Value.builtin "len") [Value.ref _]) _ _ _); k_dflt (refine my_lenS (by k_asm) (by assumption) (by assumption) (by w_how) ?_))))
 k_with "my subscriptTail" => ((fail_if_success (fail_if_success (have h9 := in_F2))); ((k_here; (with_reducible show wpAny _ _ (subscriptTail _ _ (Value.ref _) (Value.int _ _)) _ _ _); k_dflt (refine my_itemS (by k_asm) (by assumption) (by assumption) (by w_how) (by w_how) (by w_how) ?_ (by with_unfolding_all rfl)); intro n9 t9)))
 trivial
section
variable {M : Model} {A : Around} {E : Value → Shared → Prop} {s : Shared} {env : Env}
theorem group_ {l rest : List Stmt} {Q : Flow → Shared → Prop} (h : wpAny M A (execs l env) (fun f s' => match f with | .next => wpAny M A (execs rest env) Q E s' | f => Q f s') E s) : wpAny M A (execs (l ++ rest) env) Q E s := by
 intros Γ p hΓ
 have key : ∀ (l : List Stmt) (p : Pos) (s : Shared), Sem.wp M Γ (execs l env) (fun f _ s' => match f with | .next => wpAny M A (execs rest env) Q E s' | f => Q f s') (fun e _ s' => E e s') p s →
   Sem.wp M Γ (execs (l ++ rest) env) (fun f _ s' => Q f s') (fun e _ s' => E e s') p s := by
  intros l
  induction l with
  |nil => intros p s h; exact h Γ p hΓ
  |cons st l ih =>
   intros p s h
   rw [List.cons_append, execs_cons, Sem.wp_bind']
   rw [execs_cons, Sem.wp_bind'] at h
   refine Sem.wp_mono M Γ _ (fun f p' s' h' => ?_) (fun _ _ _ h' => h') _ _ h
   cases f with
   |next => exact ih p' s' h'
   |_ => exact h'
 exact key l p s (h Γ p hΓ)
theorem group2 {st1 st2 st3 : Stmt} {rest : List Stmt} {Q J : Flow → Shared → Prop}
  (h1 : wpAny M A (exec st1 env) (fun f s' => match f with | .next => wpAny M A (execs [st2, st3] env) J E s' | f => J f s') E s)
  (hJ : ∀ f s', J f s' → match f with | .next => wpAny M A (execs rest env) Q E s' | f => Q f s') :
  wpAny M A (exec st1 env) (fun f s' => match f with | .next => wpAny M A (execs (st2 :: st3 :: rest) env) Q E s' | f => Q f s') E s := by
 refine wpAny_mono h1 (fun f s' h => ?_) fun _ _ e => e
 cases f with
 |next => exact group_ (l := [st2, st3]) (wpAny_mono h hJ fun _ _ e => e)
 |_ => exact hJ _ s' h
theorem group1 {st1 st2 : Stmt} {rest : List Stmt} {Q J : Flow → Shared → Prop}
  (h1 : wpAny M A (exec st1 env) (fun f s' => match f with | .next => wpAny M A (execs [st2] env) J E s' | f => J f s') E s)
  (hJ : ∀ f s', J f s' → match f with | .next => wpAny M A (execs rest env) Q E s' | f => Q f s') :
  wpAny M A (exec st1 env) (fun f s' => match f with | .next => wpAny M A (execs (st2 :: rest) env) Q E s' | f => Q f s') E s := by
 refine wpAny_mono h1 (fun f s' h => ?_) fun _ _ e => e
 cases f with
 |next => exact group_ (l := [st2]) (wpAny_mono h hJ fun _ _ e => e)
 |_ => exact hJ _ s' h
end
noncomputable def JoinL (news : Led) (g : Heap) (L : Addr) (m : Str → Option Value) (x y : Str) (s : Shared) (P : List Act → Prop) (f : Flow) (s' : Shared) : Prop :=
 f = .next ∧ ∃ h' tk D vs n acts add u, s' = { s with heap := h', toks := tk } ∧ Fr g L h' (fun z => if z = x then some (.ref D) else if z = y then u else m z) ∧ News g L h' ((D, listOf vs.toArray n) :: (add ++ news)) ∧ New news ((D, listOf vs.toArray n) :: add) ∧
  DatAll add vs (acts.map tD) ∧ P acts
theorem JoinL.intro {news all : Led} {g h' : Heap} {L D : Addr} {m m' : Str → Option Value} {x y : Str} {s : Shared} {P : List Act → Prop} {tk n : Nat} {vs : List Value} (acts : List Act) (add : Led) (F : Fr g L h' m') (N : News g L h' all) (hx : m' x = some (.ref D)) (hm : ∀ z, z ≠ x → z ≠ y → m' z = m z)
  (sub : ∀ p ∈ (D, listOf vs.toArray n) :: (add ++ news), p ∈ all) (hn : New news ((D, listOf vs.toArray n) :: add)) (hd : DatAll add vs (acts.map tD)) (hp : P acts) : JoinL news g L m x y s P .next { s with heap := h', toks := tk } := by
 refine ⟨rfl, h', tk, D, vs, n, acts, add, m' y, rfl, ?_, fun p hp => N p (sub p hp), hn, hd, hp⟩
 have e : (fun z => if z = x then some (.ref D) else if z = y then m' y else m z) = m' := by
  funext z
  by_cases h1 : z = x
  ·rw [if_pos h1, h1, hx]
  ·rw [if_neg h1]
   by_cases h2 : z = y
   ·rw [if_pos h2, h2]
   ·rw [if_neg h2, hm z h1 h2]
 rw [e]
 exact F
theorem JoinL.one {news all : Led} {g h' : Heap} {L D z : Addr} {m m' : Str → Option Value} {x y : Str} {s : Shared} {P : List Act → Prop} {tk n nz : Nat} {k wt : Int} {nm : Str} {t1 t2 t3 : Tok} (F : Fr g L h' m') (N : News g L h' all) (hx : m' x = some (.ref D)) (hm : ∀ z, z ≠ x → z ≠ y → m' z = m z)
  (mD : (D, listOf (List.toArray [.ref z]) n) ∈ all) (mz : (z, tupO [.int k t1, .int wt t2, .str nm t3] nz) ∈ all) (ms : ∀ p ∈ news, p ∈ all) (hD : ∀ q ∈ news, q.1 ≠ D) (hz : ∀ q ∈ news, q.1 ≠ z) (hp : P [(k, wt, nm)]) : JoinL news g L m x y s P .next { s with heap := h', toks := tk } :=
 JoinL.intro [(k, wt, nm)] [(z, tupO [.int k t1, .int wt t2, .str nm t3] nz)] F N hx hm (List.forall_mem_cons.mpr ⟨mD, List.forall_mem_cons.mpr ⟨mz, ms⟩⟩) (new_cons hD (new_cons hz new_nil)) (.cons (.tuple (.head _) (.cons (.int _ _) (.cons (.int _ _) (.cons (.str _ _) .nil)))) .nil) hp
theorem JoinL.no {news all : Led} {g h' : Heap} {L D : Addr} {m m' : Str → Option Value} {x y : Str} {s : Shared} {P : List Act → Prop} {tk n : Nat} (F : Fr g L h' m') (N : News g L h' all) (hx : m' x = some (.ref D)) (hm : ∀ z, z ≠ x → z ≠ y → m' z = m z)
  (mD : (D, listOf (List.toArray []) n) ∈ all) (ms : ∀ p ∈ news, p ∈ all) (hD : ∀ q ∈ news, q.1 ≠ D) (hp : P []) : JoinL news g L m x y s P .next { s with heap := h', toks := tk } :=
 JoinL.intro [] [] F N hx hm (List.forall_mem_cons.mpr ⟨mD, ms⟩) (new_cons hD new_nil) .nil hp
section
variable {M : Model} {A : Around} {E : Value → Shared → Prop} {s : Shared} {env : Env} {g : Heap} {L : Addr} {m : Str → Option Value}
theorem group2L {st1 st2 st3 : Stmt} {rest : List Stmt} {Q : Flow → Shared → Prop} (news : Led) (x y : Str) (P : List Act → Prop) (_ : Fr g L s.heap m)
  (h1 : wpAny M A (exec st1 env) (SeqQ M A [st2, st3] env (JoinL news g L m x y s P) E) E s)
  (h2 : ∀ h' tk D vs n acts add u, Fr g L h' (fun z => if z = x then some (.ref D) else if z = y then u else m z) → News g L h' ((D, listOf vs.toArray n) :: (add ++ news)) → New news ((D, listOf vs.toArray n) :: add) → DatAll add vs (acts.map tD) → P acts →
   wpAny M A (execs rest env) Q E { s with heap := h', toks := tk }) :
  wpAny M A (exec st1 env) (SeqQ M A (st2 :: st3 :: rest) env Q E) E s := by
 refine group2 h1 ?_
 rintro f s' ⟨rfl, h', tk, D, vs, n, acts, add, u, rfl, F', N', hn, hd, hp⟩
 exact h2 h' tk D vs n acts add u F' N' hn hd hp
theorem group1L {st1 st2 : Stmt} {rest : List Stmt} {Q : Flow → Shared → Prop} (news : Led) (x y : Str) (P : List Act → Prop) (_ : Fr g L s.heap m)
  (h1 : wpAny M A (exec st1 env) (SeqQ M A [st2] env (JoinL news g L m x y s P) E) E s)
  (h2 : ∀ h' tk D vs n acts add u, Fr g L h' (fun z => if z = x then some (.ref D) else if z = y then u else m z) → News g L h' ((D, listOf vs.toArray n) :: (add ++ news)) → New news ((D, listOf vs.toArray n) :: add) → DatAll add vs (acts.map tD) → P acts →
   wpAny M A (execs rest env) Q E { s with heap := h', toks := tk }) :
  wpAny M A (exec st1 env) (SeqQ M A (st2 :: rest) env Q E) E s := by
 refine group1 h1 ?_
 rintro f s' ⟨rfl, h', tk, D, vs, n, acts, add, u, rfl, F', N', hn, hd, hp⟩
 exact h2 h' tk D vs n acts add u F' N' hn hd hp
end
noncomputable def NoLt : Prop := True
theorem wrd_F2_2 : True := by
 k_with "my eval Tuple" => ((fail_if_success (fail_if_success (have h9 := in_F2))); ((k_here; (have nolt9 := (by assumption : NoLt)); (rename News _ _ _ _ => toN9); (rename Fr _ _ _ _ => toF9); (with_reducible refine tup_lit toF9 toN9 ?_); intro D' h' F' N' l1; clear toF9 toN9; (replace l1 : LtAll D' news := lt_sub l1 (by kqd_sub)); (try k_sweep))))
 k_with "my newTuple" => ((fail_if_success (fail_if_success (have h9 := in_F2))); ((k_here; (have nolt9 := (by assumption : NoLt)); (rename News _ _ _ _ => toN9); (rename Fr _ _ _ _ => toF9); (with_reducible refine kup_newTuple toF9 toN9 ?_ ?_); rotate_left; (focus (k_dflt kmk_size)); intro D' h' F' N' l1; clear toF9 toN9; (replace l1 : LtAll D' news := lt_sub l1 (by kqd_sub)); (try k_sweep))))
 k_with "my newList" => ((fail_if_success (fail_if_success (have h9 := in_F2))); ((k_here; (have nolt9 := (by assumption : NoLt)); (rename News _ _ _ _ => toN9); (rename Fr _ _ _ _ => toF9); (with_reducible refine newList_K toF9 toN9 ?_); intro D' h' F' N' l1; clear toF9 toN9; (replace l1 : LtAll D' news := lt_sub l1 (by kqd_sub)); (try k_sweep))))
 k_with "my subscriptTail" => ((fail_if_success (fail_if_success (have h9 := in_F2))); ((k_here; (have nolt9 := (by assumption : NoLt)); (with_reducible show wpAny _ _ (subscriptTail _ _ (Value.ref _) (Value.int _ _)) _ _ _); refine Stop.out ?_)))
 trivial
theorem ok_0 : ActsOk (5 - Int.toNat 0) [(1, 0, Str.ofString "q"), (3, 1, Str.ofString "no")] := by constructor <;> decide +kernel
theorem ok_1 : ActsOk (5 - Int.toNat 1) [(0, 3, Str.ofString "r"), (2, 0, Str.ofString "q")] := by constructor <;> decide +kernel
theorem ok_2 : ActsOk (5 - Int.toNat 2) [(4, 1, Str.ofString ""), (1, 0, Str.ofString "r")] := by constructor <;> decide +kernel
theorem ok_3 : ActsOk (5 - Int.toNat 3) [(3, 3, Str.ofString "x"), (0, 0, Str.ofString "r")] := by constructor <;> decide +kernel
theorem ok_4 : ActsOk (5 - Int.toNat 4) [(2, 0, Str.ofString "q"), (4, 1, Str.ofString "")] := by constructor <;> decide +kernel
theorem later_wt : ∀ i, i < 5 → ∀ x ∈ sNames.drop (i + 1), x ∈ sNames ∧ wtN x < 5 - i := by decide +kernel
theorem names_short : ∀ x ∈ sNames, x.length ≤ 100 := by decide +kernel
theorem strOk_app {x y : Str} (hx : PyData.strOk x = true) (hy : PyData.strOk y = true) : PyData.strOk (x ++ y) = true := by
 unfold PyData.strOk at hx hy ⊢
 show (x.cps ++ y.cps).all _ = true
 rw [Array.all_append, hx, hy]
 rfl
theorem bad_ok {x : Str} (h : x ∈ sNames) : PyData.strOk (Str.ofString "bad " ++ x) = true := strOk_app (by decide +kernel) (names_ok x h)
theorem codes_ok (i : Nat) : 0 ≤ ([1, 3, 4, 2, 0, 7] : List Int).getD i 0 ∧ ([1, 3, 4, 2, 0, 7] : List Int).getD i 0 < 1000 := by
 by_cases h : i < 6
 ·have key : ∀ i, i < 6 → 0 ≤ ([1, 3, 4, 2, 0, 7] : List Int).getD i 0 ∧ ([1, 3, 4, 2, 0, 7] : List Int).getD i 0 < 1000 := by decide
  exact key i h
 ·rw [List.getD_eq_getElem?_getD, List.getElem?_eq_none (by simp; w_how)]
  decide
theorem wrd_F2_3 : True := by
 k_with "my binaryOp Add str str" => ((fail_if_success (fail_if_success (have h9 := in_F2))); ((k_here; (with_reducible show wpAny _ _ (binaryOp _ (Value.str (PySem.Str.ofString "bad ") _) _) _ _ _); refine Stop.out ?_)))
 trivial
theorem acts_ok2 {W : Nat} {l l' : List Act} (h : l.length ≤ 1 ∧ ∀ t ∈ l, (2 ≤ t.1 ∧ t.1 ≤ 4) ∧ (t.1 = 3 → 0 ≤ t.2.1 ∧ t.2.1 < 1000 ∧ PyData.strOk t.2.2 = true)) (h' : l'.length ≤ 1 ∧ ∀ t ∈ l', (t.1 = 0 ∨ t.1 = 1) ∧ t.2.2 ∈ sNames ∧ wtN t.2.2 < W) : ActsOk W (l ++ l') := by
 have na : ∀ t ∈ l, isAdd t = false := fun t ht => by
  have := (h.2 t ht).1
  unfold isAdd
  exact decide_eq_false (by w_how)
 refine ⟨by rw [List.length_append]; w_how, fun t ht hi => ?_, ?_, fun t ht => ?_, fun t ht h3 => ?_, fun t ht h3 => ?_⟩
 ·rcases List.mem_append.mp ht with ht | ht
  ·rw [na t ht] at hi; cases hi
  ·exact (h'.2 t ht).2
 ·rw [List.countP_append]
  have e : l.countP isAdd = 0 := List.countP_eq_zero.mpr fun t ht => by rw [na t ht]; decide
  have := List.countP_le_length (p := isAdd) (l := l')
  w_how
 ·rcases List.mem_append.mp ht with ht | ht
  ·have := (h.2 t ht).1; w_how
  ·have := (h'.2 t ht).1; w_how
 ·rcases List.mem_append.mp ht with ht | ht
  ·have := (h.2 t ht).2 h3; exact ⟨this.1, this.2.1⟩
  ·have := (h'.2 t ht).1; w_how
 ·rcases List.mem_append.mp ht with ht | ht
  ·exact ((h.2 t ht).2 h3).2.2
  ·have := (h'.2 t ht).1; w_how
theorem ActsOk.comm {W : Nat} {l l' : List Act} (h : ActsOk W (l ++ l')) : ActsOk W (l' ++ l) := by
 obtain ⟨a, b, c, d, e, f⟩ := h
 have hm : ∀ t, t ∈ l' ++ l → t ∈ l ++ l' := fun t ht => by
  rw [List.mem_append] at ht ⊢
  exact ht.symm
 exact ⟨by rw [List.length_append] at a ⊢; w_how, fun t ht => b t (hm t ht), by rw [List.countP_append] at c ⊢; w_how, fun t ht => d t (hm t ht), fun t ht => e t (hm t ht), fun t ht => f t (hm t ht)⟩
theorem my_item5 {prog : Program} {w : World} {A : Around} {E : Value → Shared → Prop} {s : Shared} {h₀ : Heap} {L l : Addr} {news : Led} {a b c d e : Value} {n : Nat} {k : Int} {u : Tok} {value slice : PySem.Expr} {Q : Value → Shared → Prop} (N : News h₀ L s.heap news) (hm : (l, listOf (List.toArray [a, b, c, d, e]) n) ∈ news) (h0 : 0 ≤ k) (h1 : k < 5)
  (ha : k = 0 → Q a s) (hb : k = 1 → Q b s) (hc : k = 2 → Q c s) (hd : k = 3 → Q d s) (he : k = 4 → Q e s)
  (hs : subscripted slice false (.ref l) (.int k u) = operate [.ref l, .int k u] (getItem (.ref l) (.int k u)) := by with_unfolding_all rfl) :
  wpAny (model prog w) A (subscriptTail value slice (.ref l) (.int k u)) Q E s := by
 have hl := News.isList N hm
 have cc : k = 0 ∨ k = 1 ∨ k = 2 ∨ k = 3 ∨ k = 4 := by w_how
 have key : ∃ x, #[a, b, c, d, e][k.toNat]? = some x ∧ Q x s := by
  rcases cc with rfl | rfl | rfl | rfl | rfl
  ·exact ⟨a, rfl, ha rfl⟩
  ·exact ⟨b, rfl, hb rfl⟩
  ·exact ⟨c, rfl, hc rfl⟩
  ·exact ⟨d, rfl, hd rfl⟩
  ·exact ⟨e, rfl, he rfl⟩
 obtain ⟨x, hx, hq⟩ := key
 exact tail_any hl.typeIs slot_list_getitem.lookup (wpAny_getItem_list hl h0 (by w_how) hx hq) hs
theorem turn_cases {k : Int} (h0 : 0 ≤ k) (h1 : k < 5) : k = 0 ∨ k = 1 ∨ k = 2 ∨ k = 3 ∨ k = 4 := by w_how
noncomputable def HaltAt : Prop := True
theorem wrd_F2_4 : True := by
 k_with "my exec Assign" => ((fail_if_success (fail_if_success (have h9 := in_F2))); ((k_here; (have halt9 := (by assumption : HaltAt)); (with_reducible show wpAny _ _ (exec (Stmt.Assign [PySem.Expr.Name (PySem.Str.ofString "later") _] _ _) _) _ _ _); refine Stop.out ?_)))
 k_with "my exec Assign" => ((fail_if_success (fail_if_success (have h9 := in_F2))); ((k_here; (have halt9 := (by assumption : HaltAt)); (with_reducible show wpAny _ _ (exec (Stmt.Assign [PySem.Expr.Name (PySem.Str.ofString "extra") _] _ _) _) _ _ _); refine Stop.out ?_)))
 trivial
namespace law_acts_h
noncomputable abbrev T9 : Type := Program × World × (ExcName → Option Value) × (Str → Option Value) × (Str → Option Value) × Led × Addr × List Value × List Int × Int × Tok × Cx
noncomputable def S9 (prog : Program) (w : World) (mean : ExcName → Option Value) (mg : Str → Option Value) (mb : Str → Option Value) (news : Led) (sl : Addr) (svs : List Value) (ns : List Int) (k : Int) (t : Tok) (x9 : Cx) : Prop :=
 ∀ (hI : IntsAre svs ns) (hn : ns.length ≤ 63) (h0 : 0 ≤ k) (h1 : k < 5), DoesS.at prog w mean mg mb sl svs 564 [.ref sl, .int k t] 3 140 news (fun v l => ∃ D vs n acts add, v = .ref D ∧ (D, listOf vs.toArray n) ∈ add ∧ New news add ∧ ActsOk (5 - k.toNat) acts ∧ DatAll add vs (acts.map tD) ∧ l = add ++ news) x9.1 x9.2.1 x9.2.2.1 x9.2.2.2.1 x9.2.2.2.2.1 x9.2.2.2.2.2.1 x9.2.2.2.2.2.2.1 x9.2.2.2.2.2.2.2.1 x9.2.2.2.2.2.2.2.2.1 x9.2.2.2.2.2.2.2.2.2.1 x9.2.2.2.2.2.2.2.2.2.2.1 x9.2.2.2.2.2.2.2.2.2.2.2.1 x9.2.2.2.2.2.2.2.2.2.2.2.2.1 x9.2.2.2.2.2.2.2.2.2.2.2.2.2.1 x9.2.2.2.2.2.2.2.2.2.2.2.2.2.2.1 x9.2.2.2.2.2.2.2.2.2.2.2.2.2.2.2.1 x9.2.2.2.2.2.2.2.2.2.2.2.2.2.2.2.2
noncomputable def P9 : T9 → Prop := cur fun prog => cur fun w => cur fun mean => cur fun mg => cur fun mb => cur fun news => cur fun sl => cur fun svs => cur fun ns => cur fun k => cur fun t => fun x9 => S9 prog w mean mg mb news sl svs ns k t x9
theorem ex9 : ∃ x, P9 x → ∀ y, P9 y := drinker P9 (PySem.Challenge.rw_np0139_01.prog, w0, default, default, default, default, default, default, default, default, default, cx0)
@[irreducible] def c9 : T9 := Classical.choose ex9
@[irreducible] def prog := c9.1
@[irreducible] def w := c9.2.1
@[irreducible] def mean := c9.2.2.1
@[irreducible] def mg := c9.2.2.2.1
@[irreducible] def mb := c9.2.2.2.2.1
@[irreducible] def news := c9.2.2.2.2.2.1
@[irreducible] def sl := c9.2.2.2.2.2.2.1
@[irreducible] def svs := c9.2.2.2.2.2.2.2.1
@[irreducible] def ns := c9.2.2.2.2.2.2.2.2.1
@[irreducible] def k := c9.2.2.2.2.2.2.2.2.2.1
@[irreducible] def t := c9.2.2.2.2.2.2.2.2.2.2.1
@[irreducible] def x9 := c9.2.2.2.2.2.2.2.2.2.2.2
abbrev h₀ := x9.2.2.2.2.2.2.2.2.2.2.2.1
theorem core9 : S9 prog w mean mg mb news sl svs ns k t x9 := by
 refine wr_z (by
 intro hI hn h0 h1 hS B F X T N hk hdp hu hret
 have hn2 := hI.length
 refine wpAny_call ?_
 k_dflt ktr_enter
 rename Fr h₀ _ _ _ => FG9
 have hS' := FG9.lst hS
 have nolt : NoLt := trivial
 have halt : HaltAt := trivial
 f_tup
 k_steps
 ·refine Stop.mk ?_
  f_tup
  clear nolt
  repeat (rename NoLt => nolt; clear nolt)
  refine my_item5 (by k_asm) (by k_mem) h0 h1 ?_ ?_ ?_ ?_ ?_ (by with_unfolding_all rfl) <;> intro ek <;> k_steps
  all_goals rename News _ _ _ _ => N9
  ·refine hret _ _ _ _ (by assumption) N9 ⟨_, _, _, [(1, 0, Str.ofString "q"), (3, 1, Str.ofString "no")], [_, _, _, _, _, _, _, _, _, _, _, _, _, _, _, _], rfl, (by k_mem), ?_, (by rw [ek]; exact ok_0), ?_, rfl⟩
   ·(repeat (refine new_cons (by k_all) ?_)); exact new_nil
   ·exact .cons (.tuple (by k_mem) (.cons (.int _ _) (.cons (.int _ _) (.cons (.str _ _) .nil)))) (.cons (.tuple (by k_mem) (.cons (.int _ _) (.cons (.int _ _) (.cons (.str _ _) .nil)))) .nil)
  ·refine hret _ _ _ _ (by assumption) N9 ⟨_, _, _, [(0, 3, Str.ofString "r"), (2, 0, Str.ofString "q")], [_, _, _, _, _, _, _, _, _, _, _, _, _, _, _, _], rfl, (by k_mem), ?_, (by rw [ek]; exact ok_1), ?_, rfl⟩
   ·(repeat (refine new_cons (by k_all) ?_)); exact new_nil
   ·exact .cons (.tuple (by k_mem) (.cons (.int _ _) (.cons (.int _ _) (.cons (.str _ _) .nil)))) (.cons (.tuple (by k_mem) (.cons (.int _ _) (.cons (.int _ _) (.cons (.str _ _) .nil)))) .nil)
  ·refine hret _ _ _ _ (by assumption) N9 ⟨_, _, _, [(4, 1, Str.ofString ""), (1, 0, Str.ofString "r")], [_, _, _, _, _, _, _, _, _, _, _, _, _, _, _, _], rfl, (by k_mem), ?_, (by rw [ek]; exact ok_2), ?_, rfl⟩
   ·(repeat (refine new_cons (by k_all) ?_)); exact new_nil
   ·exact .cons (.tuple (by k_mem) (.cons (.int _ _) (.cons (.int _ _) (.cons (.str _ _) .nil)))) (.cons (.tuple (by k_mem) (.cons (.int _ _) (.cons (.int _ _) (.cons (.str _ _) .nil)))) .nil)
  ·refine hret _ _ _ _ (by assumption) N9 ⟨_, _, _, [(3, 3, Str.ofString "x"), (0, 0, Str.ofString "r")], [_, _, _, _, _, _, _, _, _, _, _, _, _, _, _, _], rfl, (by k_mem), ?_, (by rw [ek]; exact ok_3), ?_, rfl⟩
   ·(repeat (refine new_cons (by k_all) ?_)); exact new_nil
   ·exact .cons (.tuple (by k_mem) (.cons (.int _ _) (.cons (.int _ _) (.cons (.str _ _) .nil)))) (.cons (.tuple (by k_mem) (.cons (.int _ _) (.cons (.int _ _) (.cons (.str _ _) .nil)))) .nil)
  ·refine hret _ _ _ _ (by assumption) N9 ⟨_, _, _, [(2, 0, Str.ofString "q"), (4, 1, Str.ofString "")], [_, _, _, _, _, _, _, _, _, _, _, _, _, _, _, _], rfl, (by k_mem), ?_, (by rw [ek]; exact ok_4), ?_, rfl⟩
   ·(repeat (refine new_cons (by k_all) ?_)); exact new_nil
   ·exact .cons (.tuple (by k_mem) (.cons (.int _ _) (.cons (.int _ _) (.cons (.str _ _) .nil)))) (.cons (.tuple (by k_mem) (.cons (.int _ _) (.cons (.int _ _) (.cons (.str _ _) .nil)))) .nil)
 ·refine Stop.mk ?_
  f_tup
  clear nolt
  rename Fr _ _ _ _ => F9
  rename News _ _ _ _ => N9
  (try (with_reducible refine unw (by assumption) ?_))
  refine group2L news (Str.ofString "acts") (Str.ofString "later") (fun acts => acts.length ≤ 1 ∧ ∀ t ∈ acts, (t.1 = 0 ∨ t.1 = 1) ∧ t.2.2 ∈ sNames ∧ wtN t.2.2 < 5 - k.toNat) F9 ?_ ?_
  ·clear halt
   repeat (rename HaltAt => halt; clear halt)
   k_with "binaryOp Mod int int" => ((fail_if_success (fail_if_success (have h9 := in_F2))); (((with_reducible show wpAny _ _ (binaryOp _ (Value.int _ _) (Value.int (List.length _ : Int) _)) _ _ _); refine Stop.out ?_)))
   by_cases h4 : k < 4
   ·k_steps
    ·refine Stop.mk ?_
     f_tup
     k_dflt (refine my_mod (by w_how) ?_)
     intro c9 hc0 hc1
     f_tup
     k_steps
     rename News _ _ _ _ => N9
     rename (_ : Str) ∈ List.drop _ sNames => hx
     rename Int.fmod _ 3 < 2 => hlt
     have hge := Int.fmod_nonneg_of_pos (ns.getD k.toNat 0) (show (0 : Int) < 3 by decide)
     f_tup
     (refine arr ?_ (later_wt k.toNat (by w_how) _ (by rw [show k.toNat + 1 = (k + 1).toNat by w_how]; exact hx)); km_mul y1; intro y2)
     refine JoinL.one (by assumption) N9 (by with_unfolding_all rfl) (fun z h1 h2 => by simp only [if_neg h1, if_neg h2]) (by k_mem) (by k_mem) (by kqd_sub) (by k_all) (by k_all) ⟨by simp, fun t ht => ?_⟩
     rw [List.mem_singleton.mp ht]
     exact ⟨by dsimp only; w_how, y1, y2⟩
    ·rename News _ _ _ _ => N9
     refine JoinL.no (by assumption) N9 (by with_unfolding_all rfl) (fun z h1 h2 => by simp only [if_neg h1, if_neg h2]) (by k_mem) (by kqd_sub) (by k_all) ⟨by simp, fun t ht => nomatch ht⟩
   ·k_steps
    all_goals
     rename News _ _ _ _ => N9
     refine JoinL.no (by assumption) N9 (by with_unfolding_all rfl) (fun z h1 h2 => by simp only [if_neg h1, if_neg h2]) (by k_mem) (by kqd_sub) (by k_all) ⟨by simp, fun t ht => nomatch ht⟩
  ·clear F9 N9
   intro h2 tk2 D2 vs2 n2 acts2 add2 u2 F2 N2 hnew2 hd2 hp2
   f_tup
   k_steps
   refine Stop.mk ?_
   f_tup
   clear halt
   repeat (rename HaltAt => halt; clear halt)
   rename Fr _ _ _ _ => F9
   rename News _ _ _ _ => N9
   (try (with_reducible refine unw (by assumption) ?_))
   refine group1L ((D2, listOf vs2.toArray n2) :: (add2 ++ news)) (Str.ofString "extra") (Str.ofString "extra") (fun ex => ex.length ≤ 1 ∧ ∀ t ∈ ex, (2 ≤ t.1 ∧ t.1 ≤ 4) ∧ (t.1 = 3 → 0 ≤ t.2.1 ∧ t.2.1 < 1000 ∧ PyData.strOk t.2.2 = true)) F9 ?_ ?_
   ·k_steps
    ·rename News _ _ _ _ => N9
     refine JoinL.one (by assumption) N9 (by with_unfolding_all rfl) (fun z h1 h2 => by simp only [if_neg h1, if_neg h2]) (by k_mem) (by k_mem) (by kqd_sub) (by k_all) (by k_all) ⟨by simp, fun t ht => ?_⟩
     rw [List.mem_singleton.mp ht]
     exact ⟨⟨by show (2 : Int) ≤ 2; decide, by show (2 : Int) ≤ 4; decide⟩, fun h => absurd h (by show ¬ (2 : Int) = 3; decide)⟩
    ·refine Stop.mk ?_
     f_tup
     rename (_ : Str) ∈ sNames => hx
     refine PyProof.Rows.add_str ?_ (by have := names_short _ hx; rw [sizeLine_eq]; show 4 + _ ≤ _; w_how)
     intro t' tk
     f_tup
     k_steps
     rename News _ _ _ _ => N9
     refine JoinL.one (by assumption) N9 (by with_unfolding_all rfl) (fun z h1 h2 => by simp only [if_neg h1, if_neg h2]) (by k_mem) (by k_mem) (by kqd_sub) (by k_all) (by k_all) ⟨by simp, fun t ht => ?_⟩
     rw [List.mem_singleton.mp ht]
     exact ⟨⟨by show (2 : Int) ≤ 3; decide, by show (3 : Int) ≤ 4; decide⟩, fun _ => ⟨(codes_ok _).1, (codes_ok _).2, bad_ok hx⟩⟩
    ·rename News _ _ _ _ => N9
     refine JoinL.one (by assumption) N9 (by with_unfolding_all rfl) (fun z h1 h2 => by simp only [if_neg h1, if_neg h2]) (by k_mem) (by k_mem) (by kqd_sub) (by k_all) (by k_all) ⟨by simp, fun t ht => ?_⟩
     rw [List.mem_singleton.mp ht]
     exact ⟨⟨by show (2 : Int) ≤ 4; decide, by show (4 : Int) ≤ 4; decide⟩, fun h => absurd h (by show ¬ (4 : Int) = 3; decide)⟩
    ·rename News _ _ _ _ => N9
     refine JoinL.no (by assumption) N9 (by with_unfolding_all rfl) (fun z h1 h2 => by simp only [if_neg h1, if_neg h2]) (by k_mem) (by kqd_sub) (by k_all) ⟨by simp, fun t ht => nomatch ht⟩
   ·clear F9 N9
    intro h3 tk3 D3 vs3 n3 acts3 add3 u3 F3 N3 hnew3 hd3 hp3
    have hl2 : vs2.length ≤ 1 := by rw [hd2.length, List.length_map]; exact hp2.1
    have hl3 : vs3.length ≤ 1 := by rw [hd3.length, List.length_map]; exact hp3.1
    f_tup
    k_steps
    all_goals
     rename News _ _ _ _ => N9
     have hsub : ∀ p ∈ add3, p ∈ add3 ++ (D2, listOf vs2.toArray n2) :: (add2 ++ news) := fun p hp => List.mem_append_left _ hp
     have hn9 : ∀ (D9 : Addr) (o : Obj), (∀ p ∈ news, p.1 ≠ D9) → New news ((D9, o) :: (add3 ++ add2)) := fun D9 o h => new_cons h (new_app (fun p hp q hq => hnew3 p (.tail _ hp) q (.tail _ (List.mem_append_right _ hq))) fun p hp q hq => hnew2 p (.tail _ hp) q hq)
    ·refine hret _ _ _ _ (by assumption) (fun p hp => N9 p ?_) ⟨_, vs3 ++ vs2, 0, acts3 ++ acts2, (_, listOf (vs3 ++ vs2).toArray 0) :: (add3 ++ add2), rfl, .head _, hn9 _ _ (by k_all), ?_, ?_, rfl⟩
     ·revert p hp
      dsimp only [List.cons_append, List.nil_append]
      kqd_sub
     ·exact acts_ok2 hp3 hp2
     ·rw [List.map_append]
      exact (hd3.mono fun p hp => .tail _ (List.mem_append_left _ hp)).append (hd2.mono fun p hp => .tail _ (List.mem_append_right _ hp))
    ·refine hret _ _ _ _ (by assumption) (fun p hp => N9 p ?_) ⟨_, vs2 ++ vs3, 0, acts2 ++ acts3, (_, listOf (vs2 ++ vs3).toArray 0) :: (add3 ++ add2), rfl, .head _, hn9 _ _ (by k_all), ?_, ?_, rfl⟩
     ·revert p hp
      dsimp only [List.cons_append, List.nil_append]
      kqd_sub
     ·exact (acts_ok2 hp3 hp2).comm
     ·rw [List.map_append]
      exact (hd2.mono fun p hp => .tail _ (List.mem_append_right _ hp)).append (hd3.mono fun p hp => .tail _ (List.mem_append_left _ hp))
 ) ?_
 intro q f
 simpa using f (default : (by exact Fin 1))

theorem ok9 : ∀ y, P9 y := Classical.choose_spec ex9 (by with_unfolding_all exact core9)
end law_acts_h
theorem law_acts_does {prog : Program} {w : World} {mean : ExcName → Option Value} {mg mb : Str → Option Value} {news : Led} {sl : Addr} {svs : List Value} {ns : List Int} {k : Int} {t : Tok} (hI : IntsAre svs ns) (hn : ns.length ≤ 63) (h0 : 0 ≤ k) (h1 : k < 5) :
  DoesS prog w mean mg mb sl svs 564 [.ref sl, .int k t] 3 140 news (fun v l => ∃ D vs n acts add, v = .ref D ∧ (D, listOf vs.toArray n) ∈ add ∧ New news add ∧ ActsOk (5 - k.toNat) acts ∧ DatAll add vs (acts.map tD) ∧ l = add ++ news) := by
 intros dp un gd cn cs a ccd cl outer A₀ base h₀ L m s Q E
 exact law_acts_h.ok9 (prog, w, mean, mg, mb, news, sl, svs, ns, k, t, (dp, un, gd, cn, cs, a, ccd, cl, outer, A₀, base, h₀, L, m, s, Q, E)) hI hn h0 h1
end
theorem words_F2 : True := by
 k_with "my eval Tuple" => (k_here; (have nolt9 := (by assumption : NoLt)); (rename News _ _ _ _ => toN9); (rename Fr _ _ _ _ => toF9); (with_reducible refine tup_lit toF9 toN9 ?_); intro D' h' F' N' l1; clear toF9 toN9; (replace l1 : LtAll D' news := lt_sub l1 (by kqd_sub)); (try k_sweep))
 k_with "my newTuple" => (k_here; (have nolt9 := (by assumption : NoLt)); (rename News _ _ _ _ => toN9); (rename Fr _ _ _ _ => toF9); (with_reducible refine kup_newTuple toF9 toN9 ?_ ?_); rotate_left; (focus (k_dflt kmk_size)); intro D' h' F' N' l1; clear toF9 toN9; (replace l1 : LtAll D' news := lt_sub l1 (by kqd_sub)); (try k_sweep))
 k_with "my newList" => (k_here; (have nolt9 := (by assumption : NoLt)); (rename News _ _ _ _ => toN9); (rename Fr _ _ _ _ => toF9); (with_reducible refine newList_K toF9 toN9 ?_); intro D' h' F' N' l1; clear toF9 toN9; (replace l1 : LtAll D' news := lt_sub l1 (by kqd_sub)); (try k_sweep))
 k_with "my subscriptTail" => (k_here; (have nolt9 := (by assumption : NoLt)); (with_reducible show wpAny _ _ (subscriptTail _ _ (Value.ref _) (Value.int _ _)) _ _ _); refine Stop.out ?_)
 trivial
theorem In_F3.in_F3 : True := trivial
noncomputable section
open In_F3
noncomputable def DeedOk (t : Act) : Prop := (t.1 = 0 ∨ t.1 = 1 ∨ t.1 = 2 ∨ t.1 = 4 ∨ t.1 = 5) ∧ (isAdd t = true → t.2.2 ∈ sNames)
noncomputable def dflts : List Act := [(0, 5, Str.ofString "p"), (0, 5, Str.ofString "q"), (1, 0, Str.ofString "after#1"), (0, 2, Str.ofString "after#4"), (2, 0, Str.ofString "after#1"), (5, 0, Str.ofString ""), (1, 0, Str.ofString "q"), (5, 1, Str.ofString ""), (0, 4, Str.ofString "q"), (5, 1, Str.ofString ""), (1, 0, Str.ofString "p"), (5, 0, Str.ofString ""), (2, 0, Str.ofString "after#1"), (5, 1, Str.ofString "")]
theorem dflts_ok : ∀ t ∈ dflts, DeedOk t := by unfold DeedOk; decide +kernel
theorem kinds_ok (i : Nat) : ([0, 0, 1, 2, 5, 5, 0, 4, 1] : List Int).getD i 0 = 0 ∨ ([0, 0, 1, 2, 5, 5, 0, 4, 1] : List Int).getD i 0 = 1 ∨ ([0, 0, 1, 2, 5, 5, 0, 4, 1] : List Int).getD i 0 = 2 ∨ ([0, 0, 1, 2, 5, 5, 0, 4, 1] : List Int).getD i 0 = 4 ∨ ([0, 0, 1, 2, 5, 5, 0, 4, 1] : List Int).getD i 0 = 5 := by
 by_cases h : i < 9
 ·have key : ∀ i, i < 9 → (([0, 0, 1, 2, 5, 5, 0, 4, 1] : List Int).getD i 0 = 0 ∨ ([0, 0, 1, 2, 5, 5, 0, 4, 1] : List Int).getD i 0 = 1 ∨ ([0, 0, 1, 2, 5, 5, 0, 4, 1] : List Int).getD i 0 = 2 ∨ ([0, 0, 1, 2, 5, 5, 0, 4, 1] : List Int).getD i 0 = 4 ∨ ([0, 0, 1, 2, 5, 5, 0, 4, 1] : List Int).getD i 0 = 5) := by decide
  exact key i h
 ·rw [List.getD_eq_getElem?_getD, List.getElem?_eq_none (by simp; w_how)]
  decide
theorem deed_fin {h₀ h : Heap} {L z : Addr} {news l : Led} {kk wt : Int} {x : Str} {t1 t2 t3 : Tok} {n : Nat} (N : News h₀ L h ((z, tupO [.int kk t1, .int wt t2, .str x t3] n) :: l)) (ms : ∀ p ∈ news, p ∈ l) : News h₀ L h ([(z, tupO [.int kk t1, .int wt t2, .str x t3] n)] ++ news) := fun p hp => by
 rcases List.mem_cons.mp hp with rfl | hp
 ·exact N _ (.head _)
 ·exact N _ (.tail _ (ms p hp))
theorem no_add {k wt : Int} {x : Str} (h : ¬ k < 2) (h' : isAdd (k, wt, x) = true) : False := by
 have := of_decide_eq_true h'
 dsimp only at this
 w_how
theorem led_15 {h₀ h : Heap} {L : Addr} {p1 p2 p3 p4 p5 p6 p7 p8 p9 p10 p11 p12 p13 p14 p15 : Addr × Obj} {l : Led} (_ : News h₀ L h (p1 :: p2 :: p3 :: p4 :: p5 :: p6 :: p7 :: p8 :: p9 :: p10 :: p11 :: p12 :: p13 :: p14 :: p15 :: l)) : ∃ l', l' = [p1, p2, p3, p4, p5, p6, p7, p8, p9, p10, p11, p12, p13, p14, p15] := ⟨_, rfl⟩
theorem dfl_at {k : Int} (h0 : 0 ≤ k) (h1 : k < 14) : ∃ ka kb kx, dflts[k.toNat]? = some (ka, kb, kx) := ⟨_, _, _, List.getElem?_eq_getElem (show k.toNat < 14 by w_how)⟩
namespace law_deed_h
noncomputable abbrev T9 : Type := Program × World × (ExcName → Option Value) × (Str → Option Value) × (Str → Option Value) × Led × Addr × List Value × List Int × Int × Tok × Cx
noncomputable def S9 (prog : Program) (w : World) (mean : ExcName → Option Value) (mg : Str → Option Value) (mb : Str → Option Value) (news : Led) (sl : Addr) (svs : List Value) (ns : List Int) (k : Int) (t : Tok) (x9 : Cx) : Prop :=
 ∀ (hI : IntsAre svs ns) (hn : ns.length ≤ 63) (h0 : 0 ≤ k) (h1 : k < 14), DoesS.at prog w mean mg mb sl svs 571 [.ref sl, .int k t] 3 140 news (fun v l => ∃ z kk wt x t1 t2 t3 n add, v = .ref z ∧ (z, tupO [.int kk t1, .int wt t2, .str x t3] n) ∈ add ∧ New news add ∧ DeedOk (kk, wt, x) ∧ l = add ++ news) x9.1 x9.2.1 x9.2.2.1 x9.2.2.2.1 x9.2.2.2.2.1 x9.2.2.2.2.2.1 x9.2.2.2.2.2.2.1 x9.2.2.2.2.2.2.2.1 x9.2.2.2.2.2.2.2.2.1 x9.2.2.2.2.2.2.2.2.2.1 x9.2.2.2.2.2.2.2.2.2.2.1 x9.2.2.2.2.2.2.2.2.2.2.2.1 x9.2.2.2.2.2.2.2.2.2.2.2.2.1 x9.2.2.2.2.2.2.2.2.2.2.2.2.2.1 x9.2.2.2.2.2.2.2.2.2.2.2.2.2.2.1 x9.2.2.2.2.2.2.2.2.2.2.2.2.2.2.2.1 x9.2.2.2.2.2.2.2.2.2.2.2.2.2.2.2.2
noncomputable def P9 : T9 → Prop := cur fun prog => cur fun w => cur fun mean => cur fun mg => cur fun mb => cur fun news => cur fun sl => cur fun svs => cur fun ns => cur fun k => cur fun t => fun x9 => S9 prog w mean mg mb news sl svs ns k t x9
theorem ex9 : ∃ x, P9 x → ∀ y, P9 y := drinker P9 (PySem.Challenge.rw_np0139_01.prog, w0, default, default, default, default, default, default, default, default, default, cx0)
@[irreducible] def c9 : T9 := Classical.choose ex9
@[irreducible] def prog := c9.1
@[irreducible] def w := c9.2.1
@[irreducible] def mean := c9.2.2.1
@[irreducible] def mg := c9.2.2.2.1
@[irreducible] def mb := c9.2.2.2.2.1
@[irreducible] def news := c9.2.2.2.2.2.1
@[irreducible] def sl := c9.2.2.2.2.2.2.1
@[irreducible] def svs := c9.2.2.2.2.2.2.2.1
@[irreducible] def ns := c9.2.2.2.2.2.2.2.2.1
@[irreducible] def k := c9.2.2.2.2.2.2.2.2.2.1
@[irreducible] def t := c9.2.2.2.2.2.2.2.2.2.2.1
@[irreducible] def x9 := c9.2.2.2.2.2.2.2.2.2.2.2
abbrev h₀ := x9.2.2.2.2.2.2.2.2.2.2.2.1
theorem core9 : S9 prog w mean mg mb news sl svs ns k t x9 := by
 refine wr_z (by
 intro hI hn h0 h1 hS B F X T N hk hdp hu hret
 have hn2 := hI.length
 refine wpAny_call ?_
 k_dflt ktr_enter
 rename Fr h₀ _ _ _ => FG9
 have hS' := FG9.lst hS
 have nolt : NoLt := trivial
 k_with "exec Assign" => ((fail_if_success (fail_if_success (have h9 := in_F3))); (((have nolt9 := (by assumption : NoLt)); (with_reducible show wpAny _ _ (exec (Stmt.Assign [PySem.Expr.Name (PySem.Str.ofString "number") _] _ _) _) _ _ _); refine Stop.out ?_)))
 f_tup
 k_steps
 ·refine Stop.mk ?_
  f_tup
  clear nolt
  repeat (rename NoLt => nolt; clear nolt)
  rename News _ _ _ _ => N9
  f_tup
  (refine arr ?_ (led_15 N9); km_mul all; intro hall)
  f_tup
  (refine arr ?_ (dfl_at h0 h1); km_mul ka; km_mul kb; km_mul kx; intro hkt)
  k_dflt (refine' my_itemT (r := all) (ds := dflts) N9 ?im ?iD h0 hkt ?iz ?_ ?is)
  case im => k_mem
  case iD =>
   rw [hall]
   exact (.cons (.tuple (by k_mem) (.cons (.int _ _) (.cons (.int _ _) (.cons (.str _ _) .nil)))) (.cons (.tuple (by k_mem) (.cons (.int _ _) (.cons (.int _ _) (.cons (.str _ _) .nil)))) (.cons (.tuple (by k_mem) (.cons (.int _ _) (.cons (.int _ _) (.cons (.str _ _) .nil)))) (.cons (.tuple (by k_mem) (.cons (.int _ _) (.cons (.int _ _) (.cons (.str _ _) .nil)))) (.cons (.tuple (by k_mem) (.cons (.int _ _) (.cons (.int _ _) (.cons (.str _ _) .nil)))) (.cons (.tuple (by k_mem) (.cons (.int _ _) (.cons (.int _ _) (.cons (.str _ _) .nil)))) (.cons (.tuple (by k_mem) (.cons (.int _ _) (.cons (.int _ _) (.cons (.str _ _) .nil)))) (.cons (.tuple (by k_mem) (.cons (.int _ _) (.cons (.int _ _) (.cons (.str _ _) .nil)))) (.cons (.tuple (by k_mem) (.cons (.int _ _) (.cons (.int _ _) (.cons (.str _ _) .nil)))) (.cons (.tuple (by k_mem) (.cons (.int _ _) (.cons (.int _ _) (.cons (.str _ _) .nil)))) (.cons (.tuple (by k_mem) (.cons (.int _ _) (.cons (.int _ _) (.cons (.str _ _) .nil)))) (.cons (.tuple (by k_mem) (.cons (.int _ _) (.cons (.int _ _) (.cons (.str _ _) .nil)))) (.cons (.tuple (by k_mem) (.cons (.int _ _) (.cons (.int _ _) (.cons (.str _ _) .nil)))) (.cons (.tuple (by k_mem) (.cons (.int _ _) (.cons (.int _ _) (.cons (.str _ _) .nil)))) .nil))))))))))))))
  case iz => decide
  case is => with_unfolding_all rfl
  intro z9 c9 t1 t2 t3 hz9
  have hdd := dflts_ok (ka, kb, kx) (List.mem_of_getElem? hkt)
  f_tup
  k_steps
  rename News _ _ _ _ => N9
  refine hret _ _ _ _ (by assumption) N9 ⟨z9, _, _, _, t1, t2, t3, c9, [_, _, _, _, _, _, _, _, _, _, _, _, _, _, _], rfl, (by rw [hall] at hz9; exact hz9), ?_, hdd, rfl⟩
  (repeat (refine new_cons (by k_all) ?_)); exact new_nil
 ·clear nolt
  repeat (rename NoLt => nolt; clear nolt)
  refine Stop.mk ?_
  f_tup
  f_tup
  k_steps
  all_goals rename News _ _ _ _ => N9
  ·rename _ ∈ sNames => hx
   exact hret _ _ _ _ (by assumption) (deed_fin N9 (by kqd_sub)) ⟨_, _, _, _, _, _, _, _, [_], rfl, .head _, new_cons (by k_all) new_nil, ⟨kinds_ok _, fun _ => hx⟩, rfl⟩
  all_goals
   rename ¬ List.getD _ _ _ < 2 => h2
   exact hret _ _ _ _ (by assumption) (deed_fin N9 (by kqd_sub)) ⟨_, _, _, _, _, _, _, _, [_], rfl, .head _, new_cons (by k_all) new_nil, ⟨kinds_ok _, fun h => (no_add h2 h).elim⟩, rfl⟩
 ) ?_
 intro q f
 simpa using f (default : (by exact Fin 1))

theorem ok9 : ∀ y, P9 y := Classical.choose_spec ex9 (by with_unfolding_all exact core9)
end law_deed_h
theorem law_deed_does {prog : Program} {w : World} {mean : ExcName → Option Value} {mg mb : Str → Option Value} {news : Led} {sl : Addr} {svs : List Value} {ns : List Int} {k : Int} {t : Tok} (hI : IntsAre svs ns) (hn : ns.length ≤ 63) (h0 : 0 ≤ k) (h1 : k < 14) :
  DoesS prog w mean mg mb sl svs 571 [.ref sl, .int k t] 3 140 news (fun v l => ∃ z kk wt x t1 t2 t3 n add, v = .ref z ∧ (z, tupO [.int kk t1, .int wt t2, .str x t3] n) ∈ add ∧ New news add ∧ DeedOk (kk, wt, x) ∧ l = add ++ news) := by
 intros dp un gd cn cs a ccd cl outer A₀ base h₀ L m s Q E
 exact law_deed_h.ok9 (prog, w, mean, mg, mb, news, sl, svs, ns, k, t, (dp, un, gd, cn, cs, a, ccd, cl, outer, A₀, base, h₀, L, m, s, Q, E)) hI hn h0 h1
end
theorem In_P2.in_P2 : True := trivial
noncomputable section
open In_P2 Off9
noncomputable abbrev Row := Int × Int × Int × Str
structure Bk where
 now : Int
 count : Int
 rows : List Row
 errs : List Str
 log : List Dat
 deriving Inhabited
noncomputable def rwD (t : Row) : Dat := .tuple [.int t.1, .int t.2.1, .int t.2.2.1, .str t.2.2.2]
theorem tup4_inv {r : Led} {v : Value} {a b c d : Dat} (h : DatIn r v (.tuple [a, b, c, d])) : ∃ z n x y w u, v = .ref z ∧ (z, tupO [x, y, w, u] n) ∈ r ∧ DatIn r x a ∧ DatIn r y b ∧ DatIn r w c ∧ DatIn r u d := by
 revert r v a b c d h
 intro r v a b c d h
 obtain ⟨z, vs, n, hv, hm, h⟩ := tup_inv h
 obtain ⟨x, vs, rfl, h1, h⟩ := cons_inv h
 obtain ⟨y, vs, rfl, h2, h⟩ := cons_inv h
 obtain ⟨w, vs, rfl, h3, h⟩ := cons_inv h
 obtain ⟨u, vs, rfl, h4, h⟩ := cons_inv h
 exact ⟨z, n, x, y, w, u, hv, nil_inv h ▸ hm, h1, h2, h3, h4⟩
theorem rwD_inv {r : Led} {v : Value} {t : Row} (h : DatIn r v (rwD t)) : ∃ z n t1 t2 t3 t4, v = .ref z ∧ (z, tupO [.int t.1 t1, .int t.2.1 t2, .int t.2.2.1 t3, .str t.2.2.2 t4] n) ∈ r := by
 revert r v t h
 intro r v t h
 obtain ⟨z, n, x, y, w, u, hv, hm, h1, h2, h3, h4⟩ := tup4_inv h
 obtain ⟨t1, rfl⟩ := int_inv h1
 obtain ⟨t2, rfl⟩ := int_inv h2
 obtain ⟨t3, rfl⟩ := int_inv h3
 obtain ⟨t4, rfl⟩ := str_inv h4
 exact ⟨z, n, t1, t2, t3, t4, hv, hm⟩
theorem rwD_in {l : Led} {z : Addr} {n : Nat} {a b c : Int} {x : Str} {t1 t2 t3 t4 : Tok} (h : (z, tupO [.int a t1, .int b t2, .int c t3, .str x t4] n) ∈ l) : DatIn l (.ref z) (rwD (a, b, c, x)) :=
 .tuple h (.cons (.int _ _) (.cons (.int _ _) (.cons (.int _ _) (.cons (.str _ _) .nil))))
structure BkC where
 rw : Addr
 er : Addr
 lg : Addr
 o : Obj
 tn : Tok
 tc : Tok
 rv : List Value
 ev : List Value
 lv : List Value
 rn : Nat
 en : Nat
 ln : Nat
 deriving Inhabited
noncomputable abbrev bkV (C : BkC) (B : Bk) : List (Str × Value) := [("now", .int B.now C.tn), ("count", .int B.count C.tc), ("rows", .ref C.rw), ("errors", .ref C.er), ("log", .ref C.lg)]
noncomputable abbrev bkL (bk : Addr) (C : BkC) (t : Led) : Led :=
 (bk, C.o) :: (C.rw, listOf C.rv.toArray C.rn) :: (C.er, listOf C.ev.toArray C.en) :: (C.lg, listOf C.lv.toArray C.ln) :: t
structure BkRep (prog : Program) (w : World) (r : Led) (C : BkC) (B : Bk) : Prop where
 dict : C.o.IsDictOf (strKind prog w) (bkV C B)
 rows : DatAll r C.rv (B.rows.map rwD)
 errs : DatAll [] C.ev (B.errs.map Dat.str)
 log : DatAll r C.lv B.log
structure BkS (bk rw er lg : Addr) (t : Led) : Prop where
 nd : [bk, rw, er, lg].Nodup
 off : ∀ p ∈ t, p.1 ∉ [bk, rw, er, lg]
structure BkB (B : Bk) (n : Nat) : Prop where
 nd : (B.rows.map (·.1)).Nodup
 lo : ∀ t ∈ B.rows, 0 ≤ t.1 ∧ t.1 < B.count
 c0 : 0 ≤ B.count
 c1 : B.count + n ≤ 999999
 few : B.rows.length + n ≤ 59
 log : B.log.length + n ≤ 999999
 err : B.errs.length + n ≤ 999999
 ok : ∀ t ∈ B.rows, PyData.strOk t.2.2.2 = true
noncomputable def bkTgt (rows : List Row) (x : Str) : Option Int :=
 let named := rows.filter fun t => decide (t.2.2.2 = x)
 let named := if named = [] then rows.filter fun t => decide (aft t.1 = x) else named
 named.getLast?.map (·.1)
noncomputable def bkOwn (B : Bk) (k wt : Int) (x : Str) : Bk :=
 if k < 2 then { B with rows := B.rows ++ [(B.count, k, if k = 0 then B.now + wt else 0, x)], log := B.log ++ [.str (aft B.count)], count := B.count + 1 }
 else if k = 2 then { B with rows := B.rows.filter fun t => decide (some t.1 ≠ bkTgt B.rows x) }
 else { B with now := B.now + wt }
theorem BkS.ne {bk rw er lg : Addr} {t : Led} (h : BkS bk rw er lg t) : (Apart rw bk ∧ Apart er bk ∧ Apart lg bk) ∧ (Apart bk rw ∧ Apart er rw ∧ Apart lg rw) ∧ (Apart bk er ∧ Apart rw er ∧ Apart lg er) ∧ Apart bk lg ∧ Apart rw lg ∧ Apart er lg := by
 exact ⟨⟨nd_ne h.nd 1 0 rfl, nd_ne h.nd 2 0 rfl, nd_ne h.nd 3 0 rfl⟩, ⟨nd_ne h.nd 0 1 rfl, nd_ne h.nd 2 1 rfl, nd_ne h.nd 3 1 rfl⟩, ⟨nd_ne h.nd 0 2 rfl, nd_ne h.nd 1 2 rfl, nd_ne h.nd 3 2 rfl⟩, nd_ne h.nd 0 3 rfl, nd_ne h.nd 1 3 rfl, nd_ne h.nd 2 3 rfl⟩
theorem BkS.to {bk rw er lg : Addr} {t : Led} (h : BkS bk rw er lg t) : (∀ p ∈ t, p.1 ≠ bk) ∧ (∀ p ∈ t, p.1 ≠ rw) ∧ (∀ p ∈ t, p.1 ≠ er) ∧ ∀ p ∈ t, p.1 ≠ lg := by
 have off := h.off
 simp only [List.mem_cons, List.not_mem_nil, or_false, not_or] at off
 exact ⟨fun p hp => (off p hp).1, fun p hp => (off p hp).2.1, fun p hp => (off p hp).2.2.1, fun p hp => (off p hp).2.2.2⟩
theorem my_getItemS {prog : Program} {w : World} {A : Around} {E : Value → Shared → Prop} {s : Shared} {h₀ : Heap} {L d : Addr} {news : Led} {o : Obj} {kvs : List (Str × Value)} {k : Str} {u : Tok} {v : Value} {Q : Value → Shared → Prop} (N : News h₀ L s.heap news) (hp : (d, o) ∈ news) (hd : o.IsDictOf (strKind prog w) kvs) (hl : valueAt kvs k = some v) (h : Q v { s with toks := s.toks + 1 }) :
  wpAny (model prog w) A (getItem (.ref d) (.str k u)) Q E s := wpAny_getItem_of (strKind_is _ _ _ _) (kda_dict N hp hd).mapOf hl h


end
theorem words_P2 : True := by
 k_with "my subscriptTail" => (k_here; (with_reducible show wpAny _ _ (subscriptTail _ _ (Value.ref _) (Value.str _ _)) _ _ _); k_dflt (refine my_getStr (by k_asm) (by k_mem) (by with_reducible assumption) (by first | rfl | assumption) ?_ (by with_unfolding_all rfl) (by (intro _; with_unfolding_all rfl))))
 k_with "my getItem ref str" => (k_here; (with_reducible show wpAny _ _ (getItem (Value.ref _) (Value.str _ _)) _ _ _); k_dflt (refine my_getItemS (by k_asm) (by k_mem) (by with_reducible assumption) (by rfl) ?_))
 k_with "my setItem ref str" => (k_here; k_dflt (refine kda_set (knd := PySem.strKind _ _) (by k_asm) (by k_asm) (by k_updF) (by with_reducible assumption) (strKind_is _ _ _ _) (by (rw [sizeLine_eq]; exact Nat.le_of_ble_eq_true (by with_unfolding_all rfl))) ?_); intro h' o' F' N' hd'; (try dsimp only at N'); (try dsimp only at hd'))
 trivial
theorem In_F4.in_F4 : True := trivial
noncomputable section
open In_F4 Off9 Noi9
section
open PySem.MeetsSeq PySem.MeetsSeq2 PySem.MeetsSeq3 PySem.SeqRoads2 PySem.SeqAt
open PySem.AutoSeq1 (wpAny_loadPart')
theorem remove_loopAt (l : Addr) (items : Array Value) (n : Nat) (x : Value) (e : Value → Bool) (j : Nat) (hj : j < items.size) (hit : e items[j] = true) (hs1 : items.size ≤ sizeLine) (k : Nat) :
  ∀ i : Nat, j - i = k → i ≤ j → (∀ m (hm : m < items.size), i ≤ m → m < j → e items[m] = false) → PySem.Meets (Builtin.«list.remove.loop» ⟨[.ref l, x, rawInt i], []⟩)
   (fun A R s => s.heap.get? l = some { cls := .type "list", dict := none, data := .seq items n, slots := #[] } ∧ (∀ y, y ∈ items → EqAt A.in1 s y x (e y)) ∧ R (.ok (.ret .none)) { s with heap := s.heap.update l (Obj.mapSeq fun xs => xs.eraseIdxIfInBounds j) }) := by
 induction k with
 |zero =>
  intro i hk hij hno prog w A R s h
  obtain ⟨hp, g, d, tk, os⟩ := s; obtain ⟨hl, he, h⟩ := h
  have hij' : i = j := by w_how
  subst hij'
  wp_walk using wpAny_loadPart' hl
  have hi : items[((i : Nat) : Int).toNat]? = some items[i] := by simp [hj]
  rw [hi]
  refine wpAny_bind (he _ (Array.getElem_mem hj) prog w _ _ ?_)
  rw [hit]
  have hz' : (items.eraseIdxIfInBounds i).size ≤ sizeLine + 1 := Nat.le_trans (size_erased items _) (Nat.le_succ_of_le hs1)
  wp_walk using (wpAny_updateSeq hl rfl (hz := hs1) (_hz' := hz')), wpAny_loadPart' hl
  simpa using h
 |succ k ih =>
  intro i hk hij hno prog w A R s h
  obtain ⟨hp, g, d, tk, os⟩ := s; obtain ⟨hl, he, h⟩ := h
  have hlt : i < items.size := by w_how
  wp_walk using wpAny_loadPart' hl
  have hi : items[((i : Nat) : Int).toNat]? = some items[i] := by simp [hlt]
  have hc : ((i : Int) + 1) = ((i + 1 : Nat) : Int) := by push_cast; rfl
  rw [hi]
  refine wpAny_bind (he _ (Array.getElem_mem hlt) prog w _ _ ?_)
  rw [hno i hlt (Nat.le_refl _) (by w_how)]
  wp_walk
  rw [hc]
  exact ⟨plainId_quiet plain_remove_loop _, codeAny_builtin entry_remove_loop (by
   rw [Around.under_plainId plain_remove_loop _]
   exact ih (i + 1) (by w_how) (by w_how) (fun m hm h1 h2 => hno m hm (by w_how) h2) prog w A R _ ⟨hl, he, h⟩)⟩
theorem list_removeAt (l : Addr) (items : Array Value) (n : Nat) (x : Value) (e : Value → Bool) (j : Nat) (hj : j < items.size) (hit : e items[j] = true) (hno : ∀ m (hm : m < items.size), m < j → e items[m] = false) (hs1 : items.size ≤ sizeLine) :
  PySem.Meets (Builtin.«list.remove» ⟨[.ref l, x], []⟩)
   (fun A R s => s.heap.get? l = some { cls := .type "list", dict := none, data := .seq items n, slots := #[] } ∧ (∀ y, y ∈ items → EqAt A.in1 s y x (e y)) ∧ R (.ok (.ret .none)) { s with heap := s.heap.update l (Obj.mapSeq fun xs => xs.eraseIdxIfInBounds j) }) := by
 intro prog w A R s h
 obtain ⟨hp, g, d, tk, os⟩ := s; obtain ⟨hl, he, h⟩ := h
 wp_walk using wpAny_loadPart' hl
 exact ⟨plainId_quiet plain_remove_loop _, codeAny_builtin entry_remove_loop (by
  rw [Around.under_plainId plain_remove_loop _]
  exact remove_loopAt l items n x e j hj hit hs1 _ 0 rfl (Nat.zero_le _) (fun m hm _ h2 => hno m hm h2) prog w A R _ ⟨hl, he, h⟩)⟩
variable {prog : Program} {w : World} {A : Around} {E : Value → Shared → Prop} {s : Shared} {h₀ : Heap} {L D : Addr} {m : Str → Option Value} {news news' n₁ n₂ : Led} {vs : List Value} {n : Nat} {ds : List Dat} {x : Value} {d : Dat} {Q : Value → Shared → Prop}
theorem kqdPs_map : ∀ ds : List Dat, kqdPs ds = ds.map kqdP
 |[] => by simp [kqdPs]
 |d :: ds => by simp [kqdPs, kqdPs_map ds]
open Classical in
theorem my_removeD {j : Nat} (F : Fr h₀ L s.heap m) (N : News h₀ L s.heap news) (Da : DatAll n₁ vs ds) (sa : ∀ p ∈ n₁, p ∈ news) (Dx : DatIn n₂ x d) (sx : ∀ p ∈ n₂, p ∈ news) (ha : ∀ d ∈ ds, kqdOk 8 d = true)
  (hj : j < ds.length) (hd : ds[j] = d) (hno : ∀ i (hi : i < ds.length), i < j → ds[i] ≠ d) (U : Upd D (listOf vs.toArray n) (listOf (vs.eraseIdx j).toArray (n + 1)) news news') (hz : vs.length ≤ 16000000) (hu : A.units + 64 < cLine)
  (h : ∀ h', Fr h₀ L h' m → News h₀ L h' news' → Q .none { s with heap := h' }) : wpAny (model prog w) A (call (.builtin "list.remove") [.ref D, x]) Q E s := by
 obtain ⟨pre, post, rfl, rfl, a', b'⟩ := U.split
 have z := N (D, listOf vs.toArray n) (List.mem_append.mpr (.inr (.head _)))
 have hdo : kqdOk 8 d = true := ha _ (hd ▸ List.getElem_mem hj)
 obtain ⟨as, ra⟩ := kqd_all N 8 (Da.mono sa) ha
 obtain ⟨bs, rx⟩ := kqd_in N 8 (Dx.mono sx) hdo
 have l := kqd_layL ha
 have ld := kqd_lay 8 d hdo
 have hl : vs.length = ds.length := Da.length
 have rm := readsAll_map _ _ _ l.1 ra
 rw [kqdPs_map] at rm
 have get : ∀ i (hi : i < ds.length), readOf s.heap (vs[i]'(by w_how)) = kqdP ds[i] := fun i hi => by
  have := congrArg (fun l => l[i]?) rm
  simpa [hi, hl] using this
 have eqv : ∀ i (hi : i < ds.length), PyData.eqv (readOf s.heap (vs[i]'(by w_how))) (kqdP d) = decide (ds[i] = d) := fun i hi => by
  rw [get i hi]
  have key := kqd_eqv 8 ds[i] d 8 (ha _ (List.getElem_mem hi)) hdo
  by_cases e : ds[i] = d
  ·rw [decide_eq_true e]; exact key.mpr e
  ·rw [decide_eq_false e]; exact Bool.eq_false_iff.mpr fun q => e (key.mp q)
 refine call_meets PySem.F.slot_list_remove ⟨_, z.1, rfl⟩ PySem.F.entry_list_remove (PySem.F.args_list_remove_2 _ _)
  (list_removeAt D vs.toArray n x (fun y => PyData.eqv (readOf s.heap y) (kqdP d)) j (by simpa [hl] using hj) (by simpa using (eqv j hj).trans (decide_eq_true hd))
   (fun i hi hlt => by simpa using (eqv i (by simpa [hl] using hi)).trans (decide_eq_false (hno i (by simpa [hl] using hi) hlt))) (by rw [List.size_toArray, sizeLine_eq]; w_how))
  ⟨z.1, items_eqAt (by simpa using ra) rx l.1 ld.1 ?_, h _ (F.change (Heap.SameBut.update ..) z.2.1 z.2.2) (ki_turn _ N a' b' ?_ ?_)⟩
 ·have := Nat.min_le_right (PyData.depthAll (kqdPs ds)) (kqdP d).depth
  have := ld.2
  w_how
 ·show vs.toArray.eraseIdxIfInBounds j = (vs.eraseIdx j).toArray
  apply Array.toList_inj.mp
  simp [Array.toList_eraseIdxIfInBounds]
 ·have hq : (vs.eraseIdx j).toArray.size ≠ vs.toArray.size := by simp [List.length_eraseIdx, hl, hj]; w_how
  rw [if_neg (by simpa using hq)]
end
theorem datAll_snoc {l : Led} {vs : List Value} {ds : List Dat} {d : Dat} (h : DatAll l vs (ds ++ [d])) : ∃ vs0 v, vs = vs0 ++ [v] ∧ DatIn l v d := by
 have hl := h.length
 obtain ⟨v, hv, hd⟩ := h.get (k := ds.length) (by simp)
 simp at hd
 have e : vs = vs.take (ds.length + 1) := by rw [List.take_of_length_le]; simp at hl; w_how
 rw [List.take_add_one, hv] at e
 exact ⟨_, v, e, hd⟩
theorem datAll_erase {l : Led} : ∀ {vs : List Value} {ds : List Dat} (j : Nat), DatAll l vs ds → DatAll l (vs.eraseIdx j) (ds.eraseIdx j)
 |_, _, _, .nil => by simpa using DatAll.nil
 |_, _, 0, .cons _ h2 => by simpa using h2
 |_, _, j + 1, .cons h1 h2 => by simpa using DatAll.cons h1 (datAll_erase j h2)
theorem erase_map {α β : Type} (f : α → β) : ∀ (l : List α) (j : Nat), (l.map f).eraseIdx j = (l.eraseIdx j).map f
 |[], _ => by simp
 |_ :: _, 0 => by simp
 |a :: l, j + 1 => by simp [erase_map f l j]
theorem rows_erase : ∀ {rows : List Row} {j : Nat} (_ : (rows.map (·.1)).Nodup) (hj : j < rows.length), rows.filter (fun u => decide (some u.1 ≠ some (rows[j]).1)) = rows.eraseIdx j
 |[], _, _, hj => by simp at hj
 |a :: rows, 0, nd, _ => by
  simp only [List.map_cons, List.nodup_cons, List.mem_map, not_exists, not_and] at nd
  simp only [List.getElem_cons_zero, List.eraseIdx_cons_zero]
  rw [List.filter_cons_of_neg (by simp), List.filter_eq_self.mpr]
  intro u hu
  have := nd.1 u hu
  simpa using this
 |a :: rows, j + 1, nd, hj => by
  have hj' : j < rows.length := by simpa using hj
  have nd' := nd
  simp only [List.map_cons, List.nodup_cons, List.mem_map, not_exists, not_and] at nd
  simp only [List.getElem_cons_succ, List.eraseIdx_cons_succ]
  rw [List.filter_cons_of_pos, rows_erase nd.2 hj']
  have := nd.1 rows[j] (List.getElem_mem hj')
  simpa using fun e => this e.symm
theorem rwD_inj {a b : Row} (h : rwD a = rwD b) : a.1 = b.1 := by
 obtain ⟨a1, a2, a3, a4⟩ := a
 obtain ⟨b1, b2, b3, b4⟩ := b
 simp [rwD] at h
 exact h.1
theorem rows_first {rows : List Row} {j : Nat} (nd : (rows.map (·.1)).Nodup) (hj : j < rows.length) : ∀ i (hi : i < (rows.map rwD).length), i < j → (rows.map rwD)[i] ≠ rwD rows[j] := by
 intro i hi hij e
 rw [List.getElem_map] at e
 have e1 := rwD_inj e
 have hi' : i < rows.length := by simpa using hi
 have hp := List.pairwise_iff_getElem.mp nd i j (by simpa using hi') (by simpa using hj) hij
 exact hp (by simpa using e1)

end
theorem In_F5.in_F5 : True := trivial
noncomputable section
open In_F5
theorem bkV_count (C : BkC) (B : Bk) (z : Int) (t : Tok) : stored (bkV C B) (Str.ofString "count") (.int z t) = bkV { C with tc := t } { B with count := z } := by with_unfolding_all rfl
theorem bkV_now (C : BkC) (B : Bk) (z : Int) (t : Tok) : stored (bkV C B) (Str.ofString "now") (.int z t) = bkV { C with tn := t } { B with now := z } := by with_unfolding_all rfl
theorem bkV_rows (C : BkC) (B : Bk) (z : Addr) : stored (bkV C B) (Str.ofString "rows") (.ref z) = bkV { C with rw := z } B := by with_unfolding_all rfl
theorem bkOwn_add {B : Bk} {k wt : Int} {x : Str} (h : k < 2) : bkOwn B k wt x = { B with rows := B.rows ++ [(B.count, k, if k = 0 then B.now + wt else 0, x)], log := B.log ++ [.str (aft B.count)], count := B.count + 1 } := if_pos h
theorem bkOwn_del {B : Bk} {k wt : Int} {x : Str} (h : k = 2) : bkOwn B k wt x = { B with rows := B.rows.filter fun t => decide (some t.1 ≠ bkTgt B.rows x) } := by unfold bkOwn; rw [if_neg (by w_how), if_pos h]
theorem bkOwn_now {B : Bk} {k wt : Int} {x : Str} (h : ¬ k < 2) (h' : k ≠ 2) : bkOwn B k wt x = { B with now := B.now + wt } := by unfold bkOwn; rw [if_neg h, if_neg h']
noncomputable def HaltC : Prop := True
theorem str_yd {a b : Str} {i : Decidable (a = b)} (h : (a == b) = true) : @decide _ i = true := decide_eq_true (eq_of_beq h)
theorem str_nd {a b : Str} {i : Decidable (a = b)} (h : (a == b) = false) : ¬ @decide _ i = true := fun k => by
 rw [of_decide_eq_true k, beq_self_eq_true] at h
 cases h
theorem wrd_F5_1 : True := by
 k_with "my exec Assign cons ListComp" => ((fail_if_success (fail_if_success (have h9 := in_F5))); (((with_reducible show wpAny _ _ (exec (Stmt.Assign [PySem.Expr.Name (PySem.Str.ofString "named") _] _ _) _) _ _ _); k_here; k_dflt (refine LCt.Assign_ListComp_T (F₀ := by k_asm) (by rfl) (by with_unfolding_all rfl) (by with_unfolding_all rfl) (by decide) (by rfl) (by decide) (by rfl) (by rfl) (by rfl) ?_))))
 k_with "my CompSrcT" => ((fail_if_success (fail_if_success (have h9 := in_F5))); (((have halt9 := (by assumption : HaltC)); refine Stop.out ?_)))
 k_with "my subscriptTail Name Slice ref ref" => ((fail_if_success (fail_if_success (have h9 := in_F5))); (((have halt9 := (by assumption : HaltC)); refine Stop.out ?_)))
 k_with "my exec For" => ((fail_if_success (fail_if_success (have h9 := in_F5))); (((have halt9 := (by assumption : HaltC)); (with_reducible show wpAny _ _ (exec (Stmt.For _ _ _ [] _) _) _ _ _); (rename Fr _ _ _ _ => lF'); (with_unfolding_all refine For_invVF lF' (by exact rfl) (by exact rfl) ?_))))
 k_with "my pyIter ref" => ((fail_if_success (fail_if_success (have h9 := in_F5))); (((have halt9 := (by assumption : HaltC)); refine Stop.out ?_)))
 k_with "my call builtin:list.remove" => ((fail_if_success (fail_if_success (have h9 := in_F5))); (((have halt9 := (by assumption : HaltC)); refine Stop.out ?_)))
 k_with "my CompEnd" => ((fail_if_success (fail_if_success (have h9 := in_F5))); (((have halt9 := (by assumption : HaltC)); refine Stop.out ?_)))
 trivial
theorem bkOwn_errs (B : Bk) (k wt : Int) (x : Str) : (bkOwn B k wt x).errs = B.errs := by 
 unfold bkOwn
 split
 ·rfl
 ·split <;> rfl
theorem my_lastS {prog : Program} {w : World} {A : Around} {E : Value → Shared → Prop} {s : Shared} {h₀ : Heap} {L l : Addr} {m : Str → Option Value} {news : Led} {vs zs : List Value} {n : Nat} {u : Tok} {value slice : PySem.Expr} {Q : Value → Shared → Prop}
  (F : Fr h₀ L s.heap m) (N : News h₀ L s.heap news) (hm : (l, listOf vs.toArray n) ∈ news) (e : vs.drop (vs.length - 1) = zs)
  (h : ∀ D h', Fr h₀ L h' m → News h₀ L h' ((D, listOf zs.toArray 0) :: news) → (∀ p ∈ news, p.1 < D) → Q (.ref D) { s with heap := h' })
  (hs : subscripted slice false (.ref l) (.ref s.heap.objs.size) = operate [.ref s.heap.objs.size, .ref l] (getItem (.ref l) (.ref s.heap.objs.size))) (ht : ∀ r, letTemporaryGo value (.ref l) r = pure ()) (hz : vs.length < 16000000) :
  wpAny (model prog w) A (subscriptTail value slice (.ref l) (.ref s.heap.objs.size)) Q E { s with heap := s.heap.push { cls := .type "slice", data := .fields #[.int (-1) u, .none, .none] } } := by
 refine kms_slice_lit F N (News.isList N hm) (IsPart.int _ _) IsPart.none ?_ h hs ht (by rw [List.size_toArray, sizeLine_eq]; w_how)
 show kms_pick vs (some (-1)) none = zs
 show (vs.drop (vs.length - 1)).take (vs.length - (vs.length - 1)) = zs
 rw [List.take_of_length_le (by rw [List.length_drop]; w_how), e]
theorem led_add {h₀ h : Heap} {L D c bk rw er lg : Addr} {O oc ob orw oer : Obj} {lv : List Value} {y : Str} {t : Tok} {ln : Nat} {rest : Led} (_ : News h₀ L h ((D, O) :: (c, oc) :: (bk, ob) :: (rw, orw) :: (er, oer) :: (lg, listOf (lv ++ [Value.str y t]).toArray ln) :: rest)) : ∃ D' O' ob' t', D' = D ∧ O' = O ∧ ob' = ob ∧ t' = t := ⟨_, _, _, _, rfl, rfl, rfl, rfl⟩
theorem dict_t {prog : Program} {w : World} {o : Obj} {C : BkC} {B : Bk} {t : Tok} (h : o.IsDictOf (strKind prog w) (bkV { C with tc := t } B)) : ∃ t', o.IsDictOf (strKind prog w) (bkV { C with tc := t' } B) := ⟨_, h⟩
theorem dict_n {prog : Program} {w : World} {o : Obj} {C : BkC} {B : Bk} {t : Tok} (h : o.IsDictOf (strKind prog w) (bkV { C with tn := t } B)) : ∃ t', o.IsDictOf (strKind prog w) (bkV { C with tn := t' } B) := ⟨_, h⟩
theorem filt_next {α : Type} (p : α → Bool) {ds : List α} {i : Nat} {t : α} (h : ds[i]? = some t) : (ds.take (i + 1)).filter p = (ds.take i).filter p ++ if p t = true then [t] else [] := by
 rw [List.take_add_one, h, Option.toList_some, List.filter_append]
 by_cases e : p t = true <;> simp [e]
theorem rows_ok {l : List Row} (h : ∀ t ∈ l, PyData.strOk t.2.2.2 = true) : ∀ d ∈ l.map rwD, kqdOk 8 d = true := by
 intros d hd
 obtain ⟨t, ht, rfl⟩ := List.mem_map.mp hd
 have := h t ht
 simp [rwD, kqdOk, this]
theorem datAll_drop {l : Led} : ∀ {vs : List Value} {ds : List Dat} (j : Nat), DatAll l vs ds → DatAll l (vs.drop j) (ds.drop j)
 |_, _, 0, h => h
 |_, _, _ + 1, .nil => .nil
 |_, _, j + 1, .cons _ h => datAll_drop j h
theorem last_one {R : List Row} {pre post : List Row} {d : Row} (h : R.drop (R.length - 1) = pre ++ d :: post) : pre = [] ∧ post = [] ∧ R.getLast? = some d ∧ d ∈ R := by
 have hl := congrArg List.length h
 simp only [List.length_drop, List.length_append, List.length_cons] at hl
 have h1 : pre = [] := List.eq_nil_of_length_eq_zero (by w_how)
 have h2 : post = [] := List.eq_nil_of_length_eq_zero (by w_how)
 subst h1 h2
 have hR : R = R.take (R.length - 1) ++ [d] := by
  have := List.take_append_drop (R.length - 1) R
  rw [h] at this
  exact this.symm
 refine ⟨rfl, rfl, ?_, ?_⟩
 ·rw [hR, List.getLast?_append]; simp
 ·rw [hR]; simp
theorem gone {R R8 l : List Row} (h : R.drop (R.length - 1) = R8) : (l.filter fun u => decide (∀ p ∈ R8, p.1 ≠ u.1)) = l.filter fun u => decide (some u.1 ≠ R.getLast?.map (·.1)) := by
 refine List.filter_congr fun u _ => ?_
 rcases List.eq_nil_or_concat R with rfl | ⟨pre, t, rfl⟩
 ·simp at h; subst h; simp
 ·rw [List.concat_eq_append] at h ⊢
  simp at h
  subst h
  simp [eq_comm]
theorem gone1 {l : List Row} {a : Row} (l' : List Row) (h : l' = [a]) : (l.filter fun u => decide (∀ p ∈ l', p.1 ≠ u.1)) = l.filter fun u => decide (some u.1 ≠ some a.1) := by
 subst h
 exact List.filter_congr fun u _ => by simp [eq_comm]
namespace law_own_h
noncomputable abbrev T9 : Type := Program × World × (ExcName → Option Value) × (Str → Option Value) × (Str → Option Value) × Led × Led × Nat × Nat × Nat × Nat × BkC × Bk × Int × Int × Str × Tok × Tok × Tok × Cx
noncomputable def S9 (prog : Program) (w : World) (mean : ExcName → Option Value) (mg : Str → Option Value) (mb : Str → Option Value) (mt : Led) (r : Led) (bk : Nat) (ac : Nat) (na : Nat) (n : Nat) (C : BkC) (B : Bk) (k : Int) (wt : Int) (x : Str) (t1 : Tok) (t2 : Tok) (t3 : Tok) (x9 : Cx) : Prop :=
 ∀ (S : BkS bk C.rw C.er C.lg (mt ++ r)) (R : BkRep prog w r C B) (wf : BkB B (n + 1)) (ha : (ac, tupO [.int k t1, .int wt t2, .str x t3] na) ∈ mt ++ r), Does.at prog w mean mg mb 604 [.ref bk, .ref ac] 4 140 (bkL bk C (mt ++ r))
   (fun v l => v = .none ∧ ∃ add C', BkRep prog w (add ++ r) C' (bkOwn B k wt x) ∧ C'.rw = C.rw ∧ C'.er = C.er ∧ C'.lg = C.lg ∧ New (bkL bk C (mt ++ r)) add ∧ l = bkL bk C' (mt ++ (add ++ r))) x9.1 x9.2.1 x9.2.2.1 x9.2.2.2.1 x9.2.2.2.2.1 x9.2.2.2.2.2.1 x9.2.2.2.2.2.2.1 x9.2.2.2.2.2.2.2.1 x9.2.2.2.2.2.2.2.2.1 x9.2.2.2.2.2.2.2.2.2.1 x9.2.2.2.2.2.2.2.2.2.2.1 x9.2.2.2.2.2.2.2.2.2.2.2.1 x9.2.2.2.2.2.2.2.2.2.2.2.2.1 x9.2.2.2.2.2.2.2.2.2.2.2.2.2.1 x9.2.2.2.2.2.2.2.2.2.2.2.2.2.2.1 x9.2.2.2.2.2.2.2.2.2.2.2.2.2.2.2.1 x9.2.2.2.2.2.2.2.2.2.2.2.2.2.2.2.2
noncomputable def P9 : T9 → Prop := cur fun prog => cur fun w => cur fun mean => cur fun mg => cur fun mb => cur fun mt => cur fun r => cur fun bk => cur fun ac => cur fun na => cur fun n => cur fun C => cur fun B => cur fun k => cur fun wt => cur fun x => cur fun t1 => cur fun t2 => cur fun t3 => fun x9 => S9 prog w mean mg mb mt r bk ac na n C B k wt x t1 t2 t3 x9
theorem ex9 : ∃ x, P9 x → ∀ y, P9 y := drinker P9 (PySem.Challenge.rw_np0139_01.prog, w0, default, default, default, default, default, default, default, default, default, (⟨0, 0, 0, default, 0, 0, [], [], [], 0, 0, 0⟩ : BkC), (⟨0, 0, [], [], []⟩ : Bk), default, default, default, default, default, default, cx0)
@[irreducible] def c9 : T9 := Classical.choose ex9
@[irreducible] def prog := c9.1
@[irreducible] def w := c9.2.1
@[irreducible] def mean := c9.2.2.1
@[irreducible] def mg := c9.2.2.2.1
@[irreducible] def mb := c9.2.2.2.2.1
@[irreducible] def mt := c9.2.2.2.2.2.1
@[irreducible] def r := c9.2.2.2.2.2.2.1
@[irreducible] def bk := c9.2.2.2.2.2.2.2.1
@[irreducible] def ac := c9.2.2.2.2.2.2.2.2.1
@[irreducible] def na := c9.2.2.2.2.2.2.2.2.2.1
@[irreducible] def n := c9.2.2.2.2.2.2.2.2.2.2.1
@[irreducible] def C := c9.2.2.2.2.2.2.2.2.2.2.2.1
@[irreducible] def B := c9.2.2.2.2.2.2.2.2.2.2.2.2.1
@[irreducible] def k := c9.2.2.2.2.2.2.2.2.2.2.2.2.2.1
@[irreducible] def wt := c9.2.2.2.2.2.2.2.2.2.2.2.2.2.2.1
@[irreducible] def x := c9.2.2.2.2.2.2.2.2.2.2.2.2.2.2.2.1
@[irreducible] def t1 := c9.2.2.2.2.2.2.2.2.2.2.2.2.2.2.2.2.1
@[irreducible] def t2 := c9.2.2.2.2.2.2.2.2.2.2.2.2.2.2.2.2.2.1
@[irreducible] def t3 := c9.2.2.2.2.2.2.2.2.2.2.2.2.2.2.2.2.2.2.1
@[irreducible] def x9 := c9.2.2.2.2.2.2.2.2.2.2.2.2.2.2.2.2.2.2.2
theorem core9 : S9 prog w mean mg mb mt r bk ac na n C B k wt x t1 t2 t3 x9 := by
 refine wr_z (by
 intro S R wf ha B9 F X T N hk hdp hu hret
 f_tup
 first | (refine arr ?_ (id R); km_mul D0; km_mul D; km_mul D2; intro D3) | (obtain ⟨D0, D, D2, D3⟩ := id R)
 f_tup
 first | (refine arr ?_ (id wf); km_mul nd; km_mul lo; km_mul c0; km_mul c1; km_mul few; km_mul log; km_mul err; intro ok) | (obtain ⟨nd, lo, c0, c1, few, log, err, ok⟩ := id wf)
 have hlr : C.rv.length = B.rows.length := by rw [D.length, List.length_map]
 have hll : C.lv.length = B.log.length := D3.length
 f_tup
 (refine arr ?_ (S.ne); k_extra "st"; km_mul w1; km_mul w2; intro w3; k_extra "st"; km_mul w4; km_mul w5; intro w6; k_extra "st"; km_mul w7; km_mul w8; intro w9; km_mul w10; km_mul w11; intro w12)
 f_tup
 (refine arr ?_ (S.to); km_mul o1; km_mul o2; km_mul o3; intro o4)
 have o11 : ∀ p ∈ mt, p.1 ≠ bk := fun p hp => o1 p (List.mem_append_left _ hp)
 have o12 : ∀ p ∈ r, p.1 ≠ bk := fun p hp => o1 p (List.mem_append_right _ hp)
 have o21 : ∀ p ∈ mt, p.1 ≠ C.rw := fun p hp => o2 p (List.mem_append_left _ hp)
 have o22 : ∀ p ∈ r, p.1 ≠ C.rw := fun p hp => o2 p (List.mem_append_right _ hp)
 have o41 : ∀ p ∈ mt, p.1 ≠ C.lg := fun p hp => o4 p (List.mem_append_left _ hp)
 have o42 : ∀ p ∈ r, p.1 ≠ C.lg := fun p hp => o4 p (List.mem_append_right _ hp)
 have hsub : ∀ p ∈ r, p ∈ mt ++ r := fun p hp => List.mem_append_right _ hp
 simp only [bkL] at N hret ⊢
 refine wpAny_call ?_
 k_dflt ktr_enter
 have halt : HaltC := trivial
 f_tup
 k_steps
 ·rename k = 0 => hk0
  rename News _ _ _ _ => N9
  rename Obj.IsDictOf _ _ _ => H9
  try dsimp only at N9
  rw [List.push_toArray, List.push_toArray] at N9
  f_tup
  (refine arr ?_ (led_add N9); km_mul D1; km_mul O1; km_mul ob1; km_mul t9; k_extra "st"; k_extra "sr"; km_mul hO; k_extra "st"; k_extra "sr"; k_extra "sr")
  rw [bkV_count] at H9
  f_tup
  (refine arr ?_ (dict_t H9); km_mul t8; intro H9)
  refine hret _ _ _ _ (by assumption) ?_ ⟨rfl, [(D1, O1)], { C with o := ob1, tc := t8, rv := C.rv ++ [.ref D1], rn := C.rn + 1, lv := C.lv ++ [.str (aft B.count) t9], ln := C.ln + 1 }, ⟨?_, ?_, by rw [bkOwn_errs]; exact D2, ?_⟩, rfl, rfl, rfl, new_cons ?_ new_nil, rfl⟩
  rotate_left
  ·rw [bkOwn_add (by assumption)]; exact H9
  ·rw [bkOwn_add (by assumption), List.map_append, if_pos hk0]
   exact (D.mono fun p hp => .tail _ hp).append (.one (by rw [hO]; exact rwD_in (.head _)))
  ·rw [bkOwn_add (by assumption)]
   exact (D3.mono fun p hp => .tail _ hp).append (.one (.str _ _))
  ·k_all
  ·rw [hO]
   exact fun p hp => N9 p (by revert p hp; dsimp only [bkL, List.cons_append, List.nil_append]; kqd_sub)
 ·rename ¬ k = 0 => hk0
  rename News _ _ _ _ => N9
  rename Obj.IsDictOf _ _ _ => H9
  try dsimp only at N9
  rw [List.push_toArray, List.push_toArray] at N9
  f_tup
  (refine arr ?_ (led_add N9); km_mul D1; km_mul O1; km_mul ob1; km_mul t9; k_extra "st"; k_extra "sr"; km_mul hO; k_extra "st"; k_extra "sr"; k_extra "sr")
  rw [bkV_count] at H9
  f_tup
  (refine arr ?_ (dict_t H9); km_mul t8; intro H9)
  refine hret _ _ _ _ (by assumption) ?_ ⟨rfl, [(D1, O1)], { C with o := ob1, tc := t8, rv := C.rv ++ [.ref D1], rn := C.rn + 1, lv := C.lv ++ [.str (aft B.count) t9], ln := C.ln + 1 }, ⟨?_, ?_, by rw [bkOwn_errs]; exact D2, ?_⟩, rfl, rfl, rfl, new_cons ?_ new_nil, rfl⟩
  rotate_left
  ·rw [bkOwn_add (by assumption)]; exact H9
  ·rw [bkOwn_add (by assumption), List.map_append, if_neg hk0]
   exact (D.mono fun p hp => .tail _ hp).append (.one (by rw [hO]; exact rwD_in (.head _)))
  ·rw [bkOwn_add (by assumption)]
   exact (D3.mono fun p hp => .tail _ hp).append (.one (.str _ _))
  ·k_all
  ·rw [hO]
   exact fun p hp => N9 p (by revert p hp; dsimp only [bkL, List.cons_append, List.nil_append]; kqd_sub)
 ·refine Stop.mk ?_
  f_tup
  rename News _ _ _ _ => N9
  rename Fr _ _ _ _ => F9
  refine LCt.CompSrcT.ledger rfl F9 N9 (by k_mem) (by rw [List.size_toArray, sizeLine_eq]; w_how) ?_
  intro g
  refine my_compT (fun i ys nw => nw = _ ∧ DatAll r ys (((B.rows.take i).filter fun t => decide (t.2.2.2 = x)).map rwD)) ⟨rfl, .nil⟩ ?_ ?_
  ·intro i' ys nw v I oI Cx oC Dl m₂ hh tkk E' hi'
   (k_extra "st"; k_extra "sr"; intro hys)
   intro hPv hC hx' F6 N6 off6 ne6
   f_tup
   have hv2 : C.rv[i']? = some v := by simpa using hPv
   f_tup
   (refine arr ?_ (dat_row D hv2); km_mul t9; km_mul hi2; intro hd)
   clear hv2
   have hd' := hd
   f_tup
   (refine arr ?_ (rwD_inv hd); km_mul zz; km_mul cz; km_mul u1; km_mul u2; km_mul u3; km_mul u4; k_extra "st"; k_extra "sr"; intro hzz)
   have hz' := hsub _ hzz
   clear N9 F9
   f_tup
   k_steps
   all_goals refine Stop.mk ?_
   all_goals rename News _ _ _ _ => N7
   ·refine LCg.CompEnd.intro (by assumption) N7 _ (fun p hp => hp) off6 (Or.inr ⟨_, by k_mem, rfl, _, rfl⟩) ⟨rfl, ?_⟩
    rw [filt_next _ hi2, if_pos (str_yd (by with_reducible assumption)), List.map_append]
    exact hys.append (.one hd')
   ·refine LCg.CompEnd.intro (by assumption) N7 _ (fun p hp => hp) off6 (Or.inr ⟨_, by k_mem, rfl, _, rfl⟩) ⟨rfl, ?_⟩
    rw [filt_next _ hi2, if_neg (str_nd (by with_reducible assumption)), List.append_nil]
    exact hys
  ·intro ys1 nw
   (k_extra "st"; k_extra "sr"; intro hys1)
   f_tup
   rw [show C.rv.toArray.size = B.rows.length by rw [List.size_toArray, hlr], List.take_length] at hys1
   have hyl := hys1.length
   rw [List.length_map] at hyl
   have hfl : ∀ p : Row → Bool, (B.rows.filter p).length < 16000000 := fun p => by have := List.length_filter_le p B.rows; w_how
   have hok1 : ∀ d ∈ (B.rows.filter fun t => decide (t.2.2.2 = x)).map rwD, kqdOk 8 d = true := rows_ok fun t ht => ok t (List.mem_filter.mp ht).1
   by_cases hn : (B.rows.filter fun t => decide (t.2.2.2 = x)) = []
   ·have hyz : ys1.length = 0 := by rw [hyl, hn]; rfl
    f_tup
    k_steps
    refine Stop.mk ?_
    f_tup
    rename News _ _ _ _ => N9
    rename Fr _ _ _ _ => F9
    refine LCt.CompSrcT.ledger rfl F9 N9 (by k_mem) (by rw [List.size_toArray, sizeLine_eq]; w_how) ?_
    intro g
    refine my_compT (fun i ys nw => nw = _ ∧ DatAll r ys (((B.rows.take i).filter fun t => decide (aft t.1 = x)).map rwD)) ⟨rfl, .nil⟩ ?_ ?_
    ·intro i' ys nw v I oI Cx oC Dl m₂ hh tkk E' hi'
     (k_extra "st"; k_extra "sr"; intro hys)
     intro hPv hC hx' F6 N6 off6 ne6
     f_tup
     have hv2 : C.rv[i']? = some v := by simpa using hPv
     f_tup
     (refine arr ?_ (dat_row D hv2); km_mul t9; km_mul hi2; intro hd)
     clear hv2
     have hd' := hd
     f_tup
     (refine arr ?_ (rwD_inv hd); km_mul zz; km_mul cz; km_mul u1; km_mul u2; km_mul u3; km_mul u4; k_extra "st"; k_extra "sr"; intro hzz)
     have hz' := hsub _ hzz
     have hlo := lo _ (List.mem_of_getElem? hi2)
     clear N9 F9
     f_tup
     k_steps
     all_goals refine Stop.mk ?_
     all_goals rename News _ _ _ _ => N7
     ·refine LCg.CompEnd.intro (by assumption) N7 _ (fun p hp => hp) off6 (Or.inr ⟨_, by k_mem, rfl, _, rfl⟩) ⟨rfl, ?_⟩
      rw [filt_next _ hi2, if_pos (show (fun t : Row => decide (aft t.1 = x)) t9 = true from decide_eq_true (by unfold aft; exact eq_of_beq (by assumption))), List.map_append]
      exact hys.append (.one hd')
     ·refine LCg.CompEnd.intro (by assumption) N7 _ (fun p hp => hp) off6 (Or.inr ⟨_, by k_mem, rfl, _, rfl⟩) ⟨rfl, ?_⟩
      rw [filt_next _ hi2, if_neg (show ¬ (fun t : Row => decide (aft t.1 = x)) t9 = true from fun h9 => absurd (of_decide_eq_true h9) (by have q9 : (aft t9.1 == x) = false := (by unfold aft; assumption); exact ne_of_beq_false q9)), List.append_nil]
      exact hys
    ·intro ysF nw
     (k_extra "st"; k_extra "sr"; intro hysF)
     f_tup
     rw [show C.rv.toArray.size = B.rows.length by rw [List.size_toArray, hlr], List.take_length] at hysF
     have hT : bkTgt B.rows x = (B.rows.filter fun t => decide (aft t.1 = x)).getLast?.map (·.1) := by unfold bkTgt; simp only [hn, if_true]
     have hsl : ∀ t ∈ B.rows.filter fun t => decide (aft t.1 = x), t ∈ B.rows := fun t ht => (List.mem_filter.mp ht).1
     have hRl := hfl fun t => decide (aft t.1 = x)
     generalize B.rows.filter (fun t => decide (aft t.1 = x)) = R9 at hT hsl hysF hRl
     f_tup
     k_steps
     refine Stop.mk ?_
     f_tup
     rename News _ _ _ _ => N9
     rename Fr _ _ _ _ => F9
     have hl9 : ysF.length = R9.length := by rw [hysF.length, List.length_map]
     k_dflt (refine' my_lastS (zs := ysF.drop (R9.length - 1)) F9 N9 ?lsm ?lse ?_ ?lss ?lst ?lsz)
     case lsm => k_mem
     case lse => rw [hl9]
     case lss => with_unfolding_all rfl
     case lst => (intro _; with_unfolding_all rfl)
     case lsz => w_how
     intro D9 h9 F8 N8 l1
     have l2 := l1
     k_lt l2
     clear F9 N9
     have hd9 := datAll_drop (R9.length - 1) hysF
     rw [← List.map_drop] at hd9
     generalize hR8 : R9.drop (R9.length - 1) = R8 at hd9
     f_tup
     k_steps
     refine Stop.mk ?_
     f_tup
     (try (with_reducible refine unw (by assumption) ?_))
     refine loopU rwD (fun c : List Value × Nat => [(C.rw, listOf c.1.toArray c.2)]) ((D9, listOf (ysF.drop (R9.length - 1)).toArray 0) :: (bk, C.o) :: (C.er, listOf C.ev.toArray C.en) :: (C.lg, listOf C.lv.toArray C.ln) :: (mt ++ r)) (fun pre tl c => tl = [] ∧ (pre = [] → c = (C.rv, C.rn)) ∧ DatAll r c.1 ((B.rows.filter fun u => decide (∀ p ∈ pre, p.1 ≠ u.1)).map rwD)) (c₀ := (C.rv, C.rn)) (nn := 0) ?lphl hd9 rfl F8 ?lpN ?lphp ?lpturn ?lpdone
     case lphl => exact .head _
     case lpN => exact fun p hp => N8 p (by revert p hp; dsimp only [List.cons_append, List.nil_append]; kqd_sub)
     case lphp => exact ⟨rfl, fun _ => rfl, by rw [List.filter_eq_self.mpr fun u _ => decide_eq_true fun p hp => nomatch hp]; exact D⟩
     case lpdone =>
      (km_mul rv1; intro rn1)
      intro tl u h3 tk3
      (k_extra "st"; k_extra "sr"; km_mul o9_113; intro hD)
      intro F3 N3
      f_tup
      clear F8 N8
      dsimp only [List.cons_append, List.nil_append] at N3
      f_tup
      k_steps
      rename News _ _ _ _ => N7
      refine hret _ _ _ _ (by assumption) ?_ ⟨rfl, [], { C with rv := rv1, rn := rn1 }, ⟨?_, ?_, by rw [bkOwn_errs]; exact D2, ?_⟩, rfl, rfl, rfl, new_nil, rfl⟩
      rotate_left
      ·rw [bkOwn_del (by assumption)]; exact D0
      ·rw [bkOwn_del (by assumption), hT]
       rw [gone hR8] at hD
       exact hD
      ·rw [bkOwn_del (by assumption)]; exact D3
      ·exact fun p hp => N7 p (by revert p hp; dsimp only [bkL, List.cons_append, List.nil_append]; kqd_sub)
     case lpturn =>
      intro pre d post v
      (km_mul rv1; intro rn1)
      intro tl h8 tk8 own hds hv
      (k_extra "st"; k_extra "sr"; km_mul hc; intro hD)
      intro hown F7 N7
      f_tup
      clear F8 N8
      f_tup
      (refine arr ?_ (last_one (hR8.trans hds)); km_mul hp0; km_mul o9_116; km_mul o9_117; intro hmem)
      subst hp0
      cases hc rfl
      f_tup
      (refine arr ?_ (List.getElem?_of_mem (hsl d hmem)); km_mul j; intro ej)
      have hj : j < B.rows.length := (List.getElem?_eq_some_iff.mp ej).1
      have ej' : B.rows[j] = d := (List.getElem?_eq_some_iff.mp ej).2
      have hv' := hv
      f_tup
      (refine arr ?_ (rwD_inv hv); km_mul zz; km_mul cz; km_mul u1; km_mul u2; km_mul u3; km_mul u4; k_extra "st"; k_extra "sr"; intro hzz)
      have hz' := hsub _ hzz
      have hor : ∀ p ∈ own, p.1 ≠ C.rw := fun p hp => hown _ (.head _) p hp
      dsimp only [List.cons_append, List.nil_append] at N7
      f_tup
      k_steps
      refine Stop.mk ?_
      f_tup
      rename News _ _ _ _ => N9
      rename Fr _ _ _ _ => F9
      k_dflt (refine' my_removeD (j := j) F9 N9 D ?rms hv' ?rmx (rows_ok ok) ?rmj ?rmd ?rmo ?rmU ?rmz ?rmu ?_)
      case rms => kqd_sub
      case rmx => kqd_sub
      case rmj => simpa using hj
      case rmd => simp [ej']
      case rmo => rw [← ej']; exact rows_first nd hj
      case rmU => k_upd
      case rmz => w_how
      case rmu => ke_room
      intro h7 F6 N6
      clear F9 N9
      f_tup
      k_steps
      refine UPost.next (C.rv.eraseIdx j, C.rn + 1) [] F6 N6 (fun y hy => by simp only [if_neg hy]) ?sub ?hn ⟨rfl, fun h => (nomatch h), ?_⟩
      case sub =>
       dsimp only [List.cons_append, List.nil_append]
       kqd_sub
      case hn =>
       intro p hp q hq
       have e : p = (C.rw, listOf (C.rv.eraseIdx j).toArray (C.rn + 1)) := by simpa using hp
       subst e
       exact hor q hq
      have h9 := datAll_erase j D
      rw [erase_map, ← rows_erase nd hj, ej'] at h9
      try simp only [List.nil_append]
      rw [gone1 _ rfl]
      exact h9
   ·have hyz : 0 < ys1.length := by rw [hyl]; exact List.length_pos_iff.mpr hn
    have hT : bkTgt B.rows x = (B.rows.filter fun t => decide (t.2.2.2 = x)).getLast?.map (·.1) := by unfold bkTgt; simp only [hn, if_false]
    have hsl : ∀ t ∈ B.rows.filter fun t => decide (t.2.2.2 = x), t ∈ B.rows := fun t ht => (List.mem_filter.mp ht).1
    have hRl := hfl fun t => decide (t.2.2.2 = x)
    generalize B.rows.filter (fun t => decide (t.2.2.2 = x)) = R9 at hT hsl hys1 hok1 hRl
    f_tup
    (refine arr (a := ∃ y, y = ys1) ?_ (⟨_, rfl⟩); km_mul ysF; k_extra "sr")
    have hysF := hys1
    f_tup
    k_steps
    refine Stop.mk ?_
    f_tup
    rename News _ _ _ _ => N9
    rename Fr _ _ _ _ => F9
    have hl9 : ysF.length = R9.length := by rw [hysF.length, List.length_map]
    k_dflt (refine' my_lastS (zs := ysF.drop (R9.length - 1)) F9 N9 ?lsm ?lse ?_ ?lss ?lst ?lsz)
    case lsm => k_mem
    case lse => rw [hl9]
    case lss => with_unfolding_all rfl
    case lst => (intro _; with_unfolding_all rfl)
    case lsz => w_how
    intro D9 h9 F8 N8 l1
    have l2 := l1
    k_lt l2
    clear F9 N9
    have hd9 := datAll_drop (R9.length - 1) hysF
    rw [← List.map_drop] at hd9
    generalize hR8 : R9.drop (R9.length - 1) = R8 at hd9
    f_tup
    k_steps
    refine Stop.mk ?_
    f_tup
    (try (with_reducible refine unw (by assumption) ?_))
    refine loopU rwD (fun c : List Value × Nat => [(C.rw, listOf c.1.toArray c.2)]) ((D9, listOf (ysF.drop (R9.length - 1)).toArray 0) :: (bk, C.o) :: (C.er, listOf C.ev.toArray C.en) :: (C.lg, listOf C.lv.toArray C.ln) :: (mt ++ r)) (fun pre tl c => tl = [] ∧ (pre = [] → c = (C.rv, C.rn)) ∧ DatAll r c.1 ((B.rows.filter fun u => decide (∀ p ∈ pre, p.1 ≠ u.1)).map rwD)) (c₀ := (C.rv, C.rn)) (nn := 0) ?lphl hd9 rfl F8 ?lpN ?lphp ?lpturn ?lpdone
    case lphl => exact .head _
    case lpN => exact fun p hp => N8 p (by revert p hp; dsimp only [List.cons_append, List.nil_append]; kqd_sub)
    case lphp => exact ⟨rfl, fun _ => rfl, by rw [List.filter_eq_self.mpr fun u _ => decide_eq_true fun p hp => nomatch hp]; exact D⟩
    case lpdone =>
     (km_mul rv1; intro rn1)
     intro tl u h3 tk3
     (k_extra "st"; k_extra "sr"; km_mul o9_120; intro hD)
     intro F3 N3
     f_tup
     clear F8 N8
     dsimp only [List.cons_append, List.nil_append] at N3
     f_tup
     k_steps
     rename News _ _ _ _ => N7
     refine hret _ _ _ _ (by assumption) ?_ ⟨rfl, [], { C with rv := rv1, rn := rn1 }, ⟨?_, ?_, by rw [bkOwn_errs]; exact D2, ?_⟩, rfl, rfl, rfl, new_nil, rfl⟩
     rotate_left
     ·rw [bkOwn_del (by assumption)]; exact D0
     ·rw [bkOwn_del (by assumption), hT]
      rw [gone hR8] at hD
      exact hD
     ·rw [bkOwn_del (by assumption)]; exact D3
     ·exact fun p hp => N7 p (by revert p hp; dsimp only [bkL, List.cons_append, List.nil_append]; kqd_sub)
    case lpturn =>
     intro pre d post v
     (km_mul rv1; intro rn1)
     intro tl h8 tk8 own hds hv
     (k_extra "st"; k_extra "sr"; km_mul hc; intro hD)
     intro hown F7 N7
     f_tup
     clear F8 N8
     f_tup
     (refine arr ?_ (last_one (hR8.trans hds)); km_mul hp0; km_mul o9_123; km_mul o9_124; intro hmem)
     subst hp0
     cases hc rfl
     f_tup
     (refine arr ?_ (List.getElem?_of_mem (hsl d hmem)); km_mul j; intro ej)
     have hj : j < B.rows.length := (List.getElem?_eq_some_iff.mp ej).1
     have ej' : B.rows[j] = d := (List.getElem?_eq_some_iff.mp ej).2
     have hv' := hv
     f_tup
     (refine arr ?_ (rwD_inv hv); km_mul zz; km_mul cz; km_mul u1; km_mul u2; km_mul u3; km_mul u4; k_extra "st"; k_extra "sr"; intro hzz)
     have hz' := hsub _ hzz
     have hor : ∀ p ∈ own, p.1 ≠ C.rw := fun p hp => hown _ (.head _) p hp
     dsimp only [List.cons_append, List.nil_append] at N7
     f_tup
     k_steps
     refine Stop.mk ?_
     f_tup
     rename News _ _ _ _ => N9
     rename Fr _ _ _ _ => F9
     k_dflt (refine' my_removeD (j := j) F9 N9 D ?rms hv' ?rmx (rows_ok ok) ?rmj ?rmd ?rmo ?rmU ?rmz ?rmu ?_)
     case rms => kqd_sub
     case rmx => kqd_sub
     case rmj => simpa using hj
     case rmd => simp [ej']
     case rmo => rw [← ej']; exact rows_first nd hj
     case rmU => k_upd
     case rmz => w_how
     case rmu => ke_room
     intro h7 F6 N6
     clear F9 N9
     f_tup
     k_steps
     refine UPost.next (C.rv.eraseIdx j, C.rn + 1) [] F6 N6 (fun y hy => by simp only [if_neg hy]) ?sub ?hn ⟨rfl, fun h => (nomatch h), ?_⟩
     case sub =>
      dsimp only [List.cons_append, List.nil_append]
      kqd_sub
     case hn =>
      intro p hp q hq
      have e : p = (C.rw, listOf (C.rv.eraseIdx j).toArray (C.rn + 1)) := by simpa using hp
      subst e
      exact hor q hq
     have h9 := datAll_erase j D
     rw [erase_map, ← rows_erase nd hj, ej'] at h9
     try simp only [List.nil_append]
     rw [gone1 _ rfl]
     exact h9
 ·rename News _ _ _ _ => N9
  rename Obj.IsDictOf _ _ _ => H9
  try dsimp only at N9
  rw [bkV_now] at H9
  f_tup
  (refine arr ?_ (dict_n H9); km_mul t8; intro H9)
  f_tup
  (refine arr ?_ (led2 N9); km_mul o9_125; km_mul ob1; km_mul o9_126; k_extra "sr")
  refine hret _ _ _ _ (by assumption) ?_ ⟨rfl, [], { C with o := ob1, tn := t8 }, ⟨?_, ?_, by rw [bkOwn_errs]; exact D2, ?_⟩, rfl, rfl, rfl, new_nil, rfl⟩
  rotate_left
  ·rw [bkOwn_now (by assumption) (by assumption)]; exact H9
  ·rw [bkOwn_now (by assumption) (by assumption)]; exact D
  ·rw [bkOwn_now (by assumption) (by assumption)]; exact D3
  ·exact fun p hp => N9 p (by revert p hp; dsimp only [bkL, List.cons_append, List.nil_append]; kqd_sub)
 ) ?_
 intro q f
 simpa using f (default : (by exact Fin 1))

theorem ok9 : ∀ y, P9 y := Classical.choose_spec ex9 (by with_unfolding_all exact core9)
end law_own_h
theorem law_own_does {prog : Program} {w : World} {mean : ExcName → Option Value} {mg mb : Str → Option Value} {mt r : Led} {bk ac na n : Nat} {C : BkC} {B : Bk} {k wt : Int} {x : Str} {t1 t2 t3 : Tok}
  (S : BkS bk C.rw C.er C.lg (mt ++ r)) (R : BkRep prog w r C B) (wf : BkB B (n + 1)) (ha : (ac, tupO [.int k t1, .int wt t2, .str x t3] na) ∈ mt ++ r) :
  Does prog w mean mg mb 604 [.ref bk, .ref ac] 4 140 (bkL bk C (mt ++ r))
   (fun v l => v = .none ∧ ∃ add C', BkRep prog w (add ++ r) C' (bkOwn B k wt x) ∧ C'.rw = C.rw ∧ C'.er = C.er ∧ C'.lg = C.lg ∧ New (bkL bk C (mt ++ r)) add ∧ l = bkL bk C' (mt ++ (add ++ r))) := by
 intros dp un gd cn cs a' ccd cl outer A₀ base h₀ L m s Q E
 exact law_own_h.ok9 (prog, w, mean, mg, mb, mt, r, bk, ac, na, n, C, B, k, wt, x, t1, t2, t3, (dp, un, gd, cn, cs, a', ccd, cl, outer, A₀, base, h₀, L, m, s, Q, E)) S R wf ha
end
theorem words_F5 : True := by
 k_with "my CompSrcT" => ((have halt9 := (by assumption : HaltC)); refine Stop.out ?_)
 k_with "my pyIter ref" => ((have halt9 := (by assumption : HaltC)); refine Stop.out ?_)
 k_with "my call builtin:list.remove" => ((have halt9 := (by assumption : HaltC)); refine Stop.out ?_)
 k_with "my CompEnd" => ((have halt9 := (by assumption : HaltC)); refine Stop.out ?_)
 trivial
theorem In_F6.in_F6 : True := trivial
noncomputable section
open In_F6
namespace law_told3_h
noncomputable abbrev T9 : Type := Program × World × (ExcName → Option Value) × (Str → Option Value) × (Str → Option Value) × Led × Str × Tok × Tok × Cx
noncomputable def S9 (prog : Program) (w : World) (mean : ExcName → Option Value) (mg : Str → Option Value) (mb : Str → Option Value) (news : Led) (x : Str) (tn : Tok) (tx : Tok) (x9 : Cx) : Prop :=
 Does.at prog w mean mg mb 599 [.int 3 tn, .str x tx] 1 20 news (fun v l => ∃ t, v = .str (toldS 3 x) t ∧ l = news) x9.1 x9.2.1 x9.2.2.1 x9.2.2.2.1 x9.2.2.2.2.1 x9.2.2.2.2.2.1 x9.2.2.2.2.2.2.1 x9.2.2.2.2.2.2.2.1 x9.2.2.2.2.2.2.2.2.1 x9.2.2.2.2.2.2.2.2.2.1 x9.2.2.2.2.2.2.2.2.2.2.1 x9.2.2.2.2.2.2.2.2.2.2.2.1 x9.2.2.2.2.2.2.2.2.2.2.2.2.1 x9.2.2.2.2.2.2.2.2.2.2.2.2.2.1 x9.2.2.2.2.2.2.2.2.2.2.2.2.2.2.1 x9.2.2.2.2.2.2.2.2.2.2.2.2.2.2.2.1 x9.2.2.2.2.2.2.2.2.2.2.2.2.2.2.2.2
noncomputable def P9 : T9 → Prop := cur fun prog => cur fun w => cur fun mean => cur fun mg => cur fun mb => cur fun news => cur fun x => cur fun tn => cur fun tx => fun x9 => S9 prog w mean mg mb news x tn tx x9
theorem ex9 : ∃ x, P9 x → ∀ y, P9 y := drinker P9 (PySem.Challenge.rw_np0139_01.prog, w0, default, default, default, default, default, default, default, cx0)
@[irreducible] def c9 : T9 := Classical.choose ex9
@[irreducible] def prog := c9.1
@[irreducible] def w := c9.2.1
@[irreducible] def mean := c9.2.2.1
@[irreducible] def mg := c9.2.2.2.1
@[irreducible] def mb := c9.2.2.2.2.1
@[irreducible] def news := c9.2.2.2.2.2.1
@[irreducible] def x := c9.2.2.2.2.2.2.1
@[irreducible] def tn := c9.2.2.2.2.2.2.2.1
@[irreducible] def tx := c9.2.2.2.2.2.2.2.2.1
@[irreducible] def x9 := c9.2.2.2.2.2.2.2.2.2
theorem core9 : S9 prog w mean mg mb news x tn tx x9 := by
 refine wr_z (by
 intro B F X T N hk hd hu hret
 refine wpAny_call ?_
 k_dflt ktr_enter
 f_tup
 k_steps
 rename News _ _ _ _ => N9
 exact hret _ _ _ _ (by assumption) (fun p hp => N9 p (by first | exact hp | exact .tail _ hp | exact .tail _ (.tail _ hp) | exact .tail _ (.tail _ (.tail _ hp)))) ⟨_, congrArg (fun z => Value.str z _) (by unfold toldS; rw [if_neg (by decide), if_pos rfl]; decide +kernel), rfl⟩
 ) ?_
 intro q f
 simpa using f (default : (by exact Fin 1))
theorem ok9 : ∀ y, P9 y := Classical.choose_spec ex9 (by with_unfolding_all exact core9)
end law_told3_h
theorem law_told3_does {prog : Program} {w : World} {mean : ExcName → Option Value} {mg mb : Str → Option Value} {news : Led} {x : Str} {tn tx : Tok} :
  Does prog w mean mg mb 599 [.int 3 tn, .str x tx] 1 20 news (fun v l => ∃ t, v = .str (toldS 3 x) t ∧ l = news) := by
 intros dp un gd cn cs a ccd cl outer A₀ base h₀ L m s Q E
 exact law_told3_h.ok9 (prog, w, mean, mg, mb, news, x, tn, tx, (dp, un, gd, cn, cs, a, ccd, cl, outer, A₀, base, h₀, L, m, s, Q, E)) 
namespace law_told4_h
noncomputable abbrev T9 : Type := Program × World × (ExcName → Option Value) × (Str → Option Value) × (Str → Option Value) × Led × Str × Tok × Tok × Cx
noncomputable def S9 (prog : Program) (w : World) (mean : ExcName → Option Value) (mg : Str → Option Value) (mb : Str → Option Value) (news : Led) (x : Str) (tn : Tok) (tx : Tok) (x9 : Cx) : Prop :=
 Does.at prog w mean mg mb 599 [.int 4 tn, .str x tx] 1 20 news (fun v l => ∃ t, v = .str (toldS 4 x) t ∧ l = news) x9.1 x9.2.1 x9.2.2.1 x9.2.2.2.1 x9.2.2.2.2.1 x9.2.2.2.2.2.1 x9.2.2.2.2.2.2.1 x9.2.2.2.2.2.2.2.1 x9.2.2.2.2.2.2.2.2.1 x9.2.2.2.2.2.2.2.2.2.1 x9.2.2.2.2.2.2.2.2.2.2.1 x9.2.2.2.2.2.2.2.2.2.2.2.1 x9.2.2.2.2.2.2.2.2.2.2.2.2.1 x9.2.2.2.2.2.2.2.2.2.2.2.2.2.1 x9.2.2.2.2.2.2.2.2.2.2.2.2.2.2.1 x9.2.2.2.2.2.2.2.2.2.2.2.2.2.2.2.1 x9.2.2.2.2.2.2.2.2.2.2.2.2.2.2.2.2
noncomputable def P9 : T9 → Prop := cur fun prog => cur fun w => cur fun mean => cur fun mg => cur fun mb => cur fun news => cur fun x => cur fun tn => cur fun tx => fun x9 => S9 prog w mean mg mb news x tn tx x9
theorem ex9 : ∃ x, P9 x → ∀ y, P9 y := drinker P9 (PySem.Challenge.rw_np0139_01.prog, w0, default, default, default, default, default, default, default, cx0)
@[irreducible] def c9 : T9 := Classical.choose ex9
@[irreducible] def prog := c9.1
@[irreducible] def w := c9.2.1
@[irreducible] def mean := c9.2.2.1
@[irreducible] def mg := c9.2.2.2.1
@[irreducible] def mb := c9.2.2.2.2.1
@[irreducible] def news := c9.2.2.2.2.2.1
@[irreducible] def x := c9.2.2.2.2.2.2.1
@[irreducible] def tn := c9.2.2.2.2.2.2.2.1
@[irreducible] def tx := c9.2.2.2.2.2.2.2.2.1
@[irreducible] def x9 := c9.2.2.2.2.2.2.2.2.2
theorem core9 : S9 prog w mean mg mb news x tn tx x9 := by
 refine wr_z (by
 intro B F X T N hk hd hu hret
 refine wpAny_call ?_
 k_dflt ktr_enter
 f_tup
 k_steps
 rename News _ _ _ _ => N9
 exact hret _ _ _ _ (by assumption) (fun p hp => N9 p (by first | exact hp | exact .tail _ hp | exact .tail _ (.tail _ hp) | exact .tail _ (.tail _ (.tail _ hp)))) ⟨_, congrArg (fun z => Value.str z _) (by unfold toldS; rw [if_neg (by decide), if_neg (by decide), if_pos rfl]; decide +kernel), rfl⟩
 ) ?_
 intro q f
 simpa using f (default : (by exact Fin 1))
theorem ok9 : ∀ y, P9 y := Classical.choose_spec ex9 (by with_unfolding_all exact core9)
end law_told4_h
theorem law_told4_does {prog : Program} {w : World} {mean : ExcName → Option Value} {mg mb : Str → Option Value} {news : Led} {x : Str} {tn tx : Tok} :
  Does prog w mean mg mb 599 [.int 4 tn, .str x tx] 1 20 news (fun v l => ∃ t, v = .str (toldS 4 x) t ∧ l = news) := by
 intros dp un gd cn cs a ccd cl outer A₀ base h₀ L m s Q E
 exact law_told4_h.ok9 (prog, w, mean, mg, mb, news, x, tn, tx, (dp, un, gd, cn, cs, a, ccd, cl, outer, A₀, base, h₀, L, m, s, Q, E)) 
namespace law_told5_h
noncomputable abbrev T9 : Type := Program × World × (ExcName → Option Value) × (Str → Option Value) × (Str → Option Value) × Led × Int × Str × Tok × Tok × Cx
noncomputable def S9 (prog : Program) (w : World) (mean : ExcName → Option Value) (mg : Str → Option Value) (mb : Str → Option Value) (news : Led) (n : Int) (x : Str) (tn : Tok) (tx : Tok) (x9 : Cx) : Prop :=
 ∀ (h0 : 0 ≤ n) (h1 : n < 1000) (e3 : ¬ n = 3) (e4 : ¬ n = 4), Does.at prog w mean mg mb 599 [.int n tn, .str x tx] 1 20 news (fun v l => ∃ t, v = .str (toldS n x) t ∧ l = news) x9.1 x9.2.1 x9.2.2.1 x9.2.2.2.1 x9.2.2.2.2.1 x9.2.2.2.2.2.1 x9.2.2.2.2.2.2.1 x9.2.2.2.2.2.2.2.1 x9.2.2.2.2.2.2.2.2.1 x9.2.2.2.2.2.2.2.2.2.1 x9.2.2.2.2.2.2.2.2.2.2.1 x9.2.2.2.2.2.2.2.2.2.2.2.1 x9.2.2.2.2.2.2.2.2.2.2.2.2.1 x9.2.2.2.2.2.2.2.2.2.2.2.2.2.1 x9.2.2.2.2.2.2.2.2.2.2.2.2.2.2.1 x9.2.2.2.2.2.2.2.2.2.2.2.2.2.2.2.1 x9.2.2.2.2.2.2.2.2.2.2.2.2.2.2.2.2
noncomputable def P9 : T9 → Prop := cur fun prog => cur fun w => cur fun mean => cur fun mg => cur fun mb => cur fun news => cur fun n => cur fun x => cur fun tn => cur fun tx => fun x9 => S9 prog w mean mg mb news n x tn tx x9
theorem ex9 : ∃ x, P9 x → ∀ y, P9 y := drinker P9 (PySem.Challenge.rw_np0139_01.prog, w0, default, default, default, default, default, default, default, default, cx0)
@[irreducible] def c9 : T9 := Classical.choose ex9
@[irreducible] def prog := c9.1
@[irreducible] def w := c9.2.1
@[irreducible] def mean := c9.2.2.1
@[irreducible] def mg := c9.2.2.2.1
@[irreducible] def mb := c9.2.2.2.2.1
@[irreducible] def news := c9.2.2.2.2.2.1
@[irreducible] def n := c9.2.2.2.2.2.2.1
@[irreducible] def x := c9.2.2.2.2.2.2.2.1
@[irreducible] def tn := c9.2.2.2.2.2.2.2.2.1
@[irreducible] def tx := c9.2.2.2.2.2.2.2.2.2.1
@[irreducible] def x9 := c9.2.2.2.2.2.2.2.2.2.2
theorem core9 : S9 prog w mean mg mb news n x tn tx x9 := by
 refine wr_z (by
 intro h0 h1 e3 e4 B F X T N hk hd hu hret
 refine wpAny_call ?_
 k_dflt ktr_enter
 f_tup
 k_steps
 all_goals first | (have q9 := (by assumption : ([(3 : Int), 4].any fun x => x == n) = true); exfalso; simp at q9; w_how) | skip
 all_goals rename News _ _ _ _ => N9
 ·exact hret _ _ _ _ (by assumption) (fun p hp => N9 p (by first | exact hp | exact .tail _ hp | exact .tail _ (.tail _ hp) | exact .tail _ (.tail _ (.tail _ hp)))) ⟨_, congrArg (fun z => Value.str z _) (by unfold toldS; rw [if_pos (by assumption)]), rfl⟩
 ·exact hret _ _ _ _ (by assumption) (fun p hp => N9 p (by first | exact hp | exact .tail _ hp | exact .tail _ (.tail _ hp) | exact .tail _ (.tail _ (.tail _ hp)))) ⟨_, congrArg (fun z => Value.str z _) (by unfold toldS; rw [if_neg (by assumption), if_neg (by assumption), if_neg (by assumption)]), rfl⟩
 ) ?_
 intro q f
 simpa using f (default : (by exact Fin 1))
theorem ok9 : ∀ y, P9 y := Classical.choose_spec ex9 (by with_unfolding_all exact core9)
end law_told5_h
theorem law_told5_does {prog : Program} {w : World} {mean : ExcName → Option Value} {mg mb : Str → Option Value} {news : Led} {n : Int} {x : Str} {tn tx : Tok} (h0 : 0 ≤ n) (h1 : n < 1000) (e3 : ¬ n = 3) (e4 : ¬ n = 4) :
  Does prog w mean mg mb 599 [.int n tn, .str x tx] 1 20 news (fun v l => ∃ t, v = .str (toldS n x) t ∧ l = news) := by
 intros dp un gd cn cs a ccd cl outer A₀ base h₀ L m s Q E
 exact law_told5_h.ok9 (prog, w, mean, mg, mb, news, n, x, tn, tx, (dp, un, gd, cn, cs, a, ccd, cl, outer, A₀, base, h₀, L, m, s, Q, E)) h0 h1 e3 e4
theorem law_told_does {prog : Program} {w : World} {mean : ExcName → Option Value} {mg mb : Str → Option Value} {news : Led} {n : Int} {x : Str} {tn tx : Tok} (h0 : 0 ≤ n) (h1 : n < 1000) :
  Does prog w mean mg mb 599 [.int n tn, .str x tx] 1 20 news (fun v l => ∃ t, v = .str (toldS n x) t ∧ l = news) := by
 by_cases e3 : n = 3
 ·subst e3
  exact law_told3_does
 by_cases e4 : n = 4
 ·subst e4
  exact law_told4_does
 exact law_told5_does h0 h1 e3 e4

end
theorem words_F6 : True := by
 k_with "my call ref" => (k_here; (with_reducible show wpAny _ _ (call (Value.ref 599) [Value.int _ _, Value.str _ _]) _ _ _); (rename News _ _ _ _ => toN9); (rename Fr _ _ _ _ => toF9); k_dflt (refine Does.use (by k_asm) toF9 (by k_asm) (by k_asm) toN9 rfl (law_told_does (by w_how) (by w_how)) (by ktr_room) (by ktr_units) ?_); clear toN9 toF9; (intro v9 h9 tk9 news9 F9 N9 hp9); obtain ⟨tt9, e9, e9'⟩ := hp9; subst e9; subst e9'; (try dsimp only))
 trivial
theorem wordse_F6 : True := by
 k_with "my call ref" => ((fail_if_success (have h9 := noeps9)); ((k_here; (with_reducible show wpAny _ _ (call (Value.ref 599) [Value.int _ _, Value.str _ _]) _ _ _); (rename News _ _ _ _ => toN9); (rename Fr _ _ _ _ => toF9); k_dflt (refine Does.use (by k_asm) toF9 (by k_asm) (by k_asm) toN9 rfl (law_told_does (by w_how) (by w_how)) (by ktr_room) (by ktr_units) ?_); clear toN9 toF9; (intro v9 h9 tk9 news9 F9 N9 hp9); (first | (revert hp9; km_mul tt9; km_mul e9; intro e9') | (obtain ⟨tt9, e9, e9'⟩ := hp9)); subst e9; subst e9'; (try dsimp only))))
 trivial
theorem In_P4.in_P4 : True := trivial
noncomputable section
open In_P4 Off9 Noi9
noncomputable def bkActs : Bk → List Act → Bk
 |B, [] => B
 |B, (k, w, x) :: l => if k = 3 then { B with errs := B.errs ++ [toldS w x] } else bkActs (bkOwn B k w x) l
noncomputable def kinds (rows : List Row) : Int := (rows.map (·.2.1)).sum
noncomputable def bkLess (B : Bk) (t : Row) : Bk :=
 let rows := B.rows.filter fun u => decide (some u.1 ≠ some t.1)
 { B with rows := rows, log := B.log ++ [.tuple [.str t.2.2.2, .int B.now, .int (rows.length - kinds rows), .int (kinds rows)]] }
noncomputable def bkRun (B : Bk) (l : List Act) (t : Row) : Bk := bkActs (bkLess B t) l
noncomputable def Rws (prog : Program) (w : World) (rd : Addr) (acts : Str → List Act) (r : Led) : Prop :=
 ∃ od kvs, (rd, od) ∈ r ∧ od.IsDictOf (strKind prog w) kvs ∧ ∀ nm ∈ sNames, ∃ al na as, valueAt kvs nm = some (.ref al) ∧ (al, listOf as.toArray na) ∈ r ∧ DatAll r as ((acts nm).map tD)
theorem Rws.mono {prog : Program} {w : World} {rd : Addr} {acts : Str → List Act} {r r' : Led} (h : Rws prog w rd acts r) (hs : ∀ p ∈ r, p ∈ r') : Rws prog w rd acts r' := by
 obtain ⟨od, kvs, h1, h2, h3⟩ := h
 refine ⟨od, kvs, hs _ h1, h2, fun nm hn => ?_⟩
 obtain ⟨al, na, as, k1, k2, k3⟩ := h3 nm hn
 exact ⟨al, na, as, k1, hs _ k2, k3.mono hs⟩
theorem BkB.less {B : Bk} {n m : Nat} (h : BkB B n) (hm : m ≤ n) : BkB B m := by
 obtain ⟨nd, lo, c0, c1, few, log, err, ok⟩ := h
 exact ⟨nd, lo, c0, by w_how, by w_how, by w_how, by w_how, ok⟩
theorem filt_nodup {rows : List Row} (nd : (rows.map (·.1)).Nodup) (p : Row → Bool) : ((rows.filter p).map (·.1)).Nodup := nd.sublist (List.filter_sublist.map _)
theorem own_B {B : Bk} {n : Nat} {k w : Int} {x : Str} (h : BkB B (n + 1)) (hx : k < 2 → PyData.strOk x = true) : BkB (bkOwn B k w x) n := by
 obtain ⟨nd, lo, c0, c1, few, log, err, ok⟩ := h
 by_cases h2 : k < 2
 ·rw [bkOwn_add h2]
  refine ⟨?_, ?_, by dsimp only; w_how, by dsimp only; w_how, by simp; w_how, by simp; w_how, by dsimp only; w_how, ?_⟩
  ·simp only [List.map_append, List.map_cons, List.map_nil]
   refine List.nodup_append.mpr ⟨nd, by simp, ?_⟩
   intro a ha b hb
   obtain ⟨u, hu, rfl⟩ := List.mem_map.mp ha
   have := (lo u hu).2
   simp at hb
   w_how
  ·intro t ht
   dsimp only at ht ⊢
   rcases List.mem_append.mp ht with ht | ht
   ·have := lo t ht; w_how
   ·simp at ht; subst ht; dsimp only; w_how
  ·intro t ht
   rcases List.mem_append.mp ht with ht | ht
   ·exact ok t ht
   ·simp at ht; subst ht; exact hx h2
 ·by_cases h3 : k = 2
  ·rw [bkOwn_del h3]
   exact ⟨filt_nodup nd _, fun t ht => lo t (List.mem_filter.mp ht).1, c0, by dsimp only; w_how, by have := List.length_filter_le (fun t : Row => decide (some t.1 ≠ bkTgt B.rows x)) B.rows; dsimp only; w_how, by dsimp only; w_how, by dsimp only; w_how, fun t ht => ok t (List.mem_filter.mp ht).1⟩
  ·rw [bkOwn_now h2 h3]
   exact ⟨nd, lo, c0, by dsimp only; w_how, by dsimp only; w_how, by dsimp only; w_how, by dsimp only; w_how, ok⟩
theorem less_B {B : Bk} {n : Nat} (t : Row) (h : BkB B (n + 1)) : BkB (bkLess B t) n := by
 obtain ⟨nd, lo, c0, c1, few, log, err, ok⟩ := h
 exact ⟨filt_nodup nd _, fun t ht => lo t (List.mem_filter.mp ht).1, c0, by simp only [bkLess]; w_how, by have := List.length_filter_le (fun u : Row => decide (some u.1 ≠ some t.1)) B.rows; simp only [bkLess]; w_how, by simp only [bkLess, List.length_append, List.length_cons, List.length_nil]; w_how, by simp only [bkLess]; w_how, fun t ht => ok t (List.mem_filter.mp ht).1⟩

end
theorem In_P3.in_P3 : True := trivial
noncomputable section
open In_P3 Off9
noncomputable def lexT (x y : Int × Int × Str) : Prop := x.1 < y.1 ∨ (x.1 = y.1 ∧ x.2.1 < y.2.1)
structure Rel (a : EvS) (er : List Str) (B : Bk) : Prop where
 now : B.now = a.now
 num : B.count = a.num
 log : B.log = a.log
 errs : B.errs = er
 kd : ∀ t ∈ B.rows, t.2.1 = 0 ∨ t.2.1 = 1
 inc : B.rows.Pairwise fun x y => x.1 < y.1
 lo : ∀ t ∈ B.rows, 0 ≤ t.1 ∧ t.1 < B.count
 i : a.i = (B.rows.filter fun t => decide (t.2.1 = 1)).map fun t => (t.1, t.2.2.2)
 q : a.q.Perm ((B.rows.filter fun t => decide (t.2.1 = 0)).map fun t => (t.2.2.1, t.1, t.2.2.2))
 srt : a.q.Pairwise lexT
theorem aft_inj {m n : Int} (h1 : 0 ≤ m) (h2 : m < 1000000000) (h3 : 0 ≤ n) (h4 : n < 1000000000) (h : aft m = aft n) : m = n := by
 have e : Str.ofString (toString m) = Str.ofString (toString n) := by
  unfold aft at h
  have := congrArg PySem.Str.cps h
  rw [PySem.Str.cps_append, PySem.Str.cps_append] at this
  exact PySem.Str.ext' (Array.append_right_inj _ |>.mp this)
 have e1 := KIN.num_reads h1 (by w_how)
 have e2 := KIN.num_reads h3 (by w_how)
 rw [e] at e1
 exact Option.some.inj (e1.symm.trans e2)
theorem last_max : ∀ {l : List Row} {t : Row}, l.Pairwise (fun x y => x.1 < y.1) → t ∈ l → ∃ u, l.getLast? = some u ∧ u ∈ l ∧ t.1 ≤ u.1 := by
 intros l t hp ht
 rcases List.eq_nil_or_concat l with rfl | ⟨pre, u, rfl⟩
 ·cases ht
 ·rw [List.concat_eq_append] at *
  refine ⟨u, by simp, by simp, ?_⟩
  rcases List.mem_append.mp ht with h | h
  ·have := (List.pairwise_append.mp hp).2.2 t h u (by simp)
   w_how
  ·rw [List.mem_singleton.mp h]; exact Int.le_refl _
theorem Rel.all {a : EvS} {er : List Str} {B : Bk} (h : Rel a er B) {p : Int × Str × Str} : p ∈ allR a.q a.i ↔ ∃ t ∈ B.rows, p = (t.1, t.2.2.2, if t.2.1 = 0 then Str.ofString "timer" else Str.ofString "idle") := by
 unfold allR
 rw [List.mem_append, List.mem_map, List.mem_map, h.i]
 constructor
 ·rintro (⟨u, hu, rfl⟩ | ⟨u, hu, rfl⟩)
  ·obtain ⟨t, ht, rfl⟩ := List.mem_map.mp (h.q.mem_iff.mp hu)
   obtain ⟨h1, h2⟩ := List.mem_filter.mp ht
   exact ⟨t, h1, by rw [if_pos (of_decide_eq_true h2)]⟩
  ·obtain ⟨t, ht, rfl⟩ := List.mem_map.mp hu
   obtain ⟨h1, h2⟩ := List.mem_filter.mp ht
   have h3 := of_decide_eq_true h2
   exact ⟨t, h1, by rw [if_neg (by w_how)]⟩
 ·rintro ⟨t, ht, rfl⟩
  rcases h.kd t ht with h0 | h0
  ·refine .inl ⟨(t.2.2.1, t.1, t.2.2.2), h.q.mem_iff.mpr (List.mem_map.mpr ⟨t, List.mem_filter.mpr ⟨ht, decide_eq_true h0⟩, rfl⟩), by rw [if_pos h0]⟩
  ·refine .inr ⟨(t.1, t.2.2.2), List.mem_map.mpr ⟨t, List.mem_filter.mpr ⟨ht, decide_eq_true h0⟩, rfl⟩, by rw [if_neg (by w_how)]⟩
theorem Rel.tgt {a : EvS} {er : List Str} {B : Bk} (h : Rel a er B) (hn : a.num < 1000000000) {x : Str} {tgt : Option Int} (m : Meets a.q a.i x tgt) : bkTgt B.rows x = tgt := by
 revert a er B h hn x tgt m
 intro a er B h hn x tgt m
 have sub : ∀ (p : Row → Bool), (B.rows.filter p).Pairwise fun x y => x.1 < y.1 := fun p => h.inc.sublist List.filter_sublist
 have hB := h.num
 unfold bkTgt
 dsimp only
 cases tgt with
 |none =>
  obtain ⟨m1, m2⟩ := m
  have e1 : (B.rows.filter fun t => decide (t.2.2.2 = x)) = [] := List.filter_eq_nil_iff.mpr fun t ht => by
   have := m1 _ (h.all.mpr ⟨t, ht, rfl⟩)
   simpa using this
  have e2 : (B.rows.filter fun t => decide (aft t.1 = x)) = [] := List.filter_eq_nil_iff.mpr fun t ht => by
   have := m2 _ (h.all.mpr ⟨t, ht, rfl⟩)
   simpa using this
  rw [if_pos e1, e2]
  rfl
 |some n =>
  obtain ⟨p, hp, rfl, m⟩ := m
  obtain ⟨t, ht, rfl⟩ := h.all.mp hp
  rcases m with ⟨m1, m2⟩ | ⟨m1, m2⟩
  ·dsimp only at m1 m2
   have hm : t ∈ B.rows.filter fun t => decide (t.2.2.2 = x) := List.mem_filter.mpr ⟨ht, decide_eq_true m1⟩
   rw [if_neg (List.ne_nil_of_mem hm)]
   obtain ⟨u, h1, h2, h3⟩ := last_max (sub _) hm
   obtain ⟨h4, h5⟩ := List.mem_filter.mp h2
   have := m2 _ (h.all.mpr ⟨u, h4, rfl⟩) (of_decide_eq_true h5)
   dsimp only at this
   rw [h1, Option.map_some, show u.1 = t.1 by w_how]
  ·dsimp only at m2
   have e1 : (B.rows.filter fun t => decide (t.2.2.2 = x)) = [] := List.filter_eq_nil_iff.mpr fun t ht => by
    have := m1 _ (h.all.mpr ⟨t, ht, rfl⟩)
    simpa using this
   rw [if_pos e1]
   have hm : t ∈ B.rows.filter fun t => decide (aft t.1 = x) := List.mem_filter.mpr ⟨ht, decide_eq_true m2⟩
   obtain ⟨u, h1, h2, h3⟩ := last_max (sub _) hm
   obtain ⟨h4, h5⟩ := List.mem_filter.mp h2
   have h6 := h.lo t ht
   have h7 := h.lo u h4
   have e := aft_inj h7.1 (by w_how) h6.1 (by w_how) ((of_decide_eq_true h5).trans m2.symm)
   rw [h1, Option.map_some, e]
theorem Rel.off {a : EvS} {er : List Str} {B : Bk} (h : Rel a er B) (tgt : Option Int) : Rel { a with q := offQ tgt a.q, i := offI tgt a.i } er { B with rows := B.rows.filter fun t => decide (some t.1 ≠ tgt) } := by
 obtain ⟨h1, h2, h3, h4, h5, h6, h7, h8, h9, h10⟩ := h
 refine ⟨h1, h2, h3, h4, fun t ht => h5 t (List.mem_filter.mp ht).1, h6.sublist List.filter_sublist, fun t ht => h7 t (List.mem_filter.mp ht).1, ?_, ?_, h10.sublist List.filter_sublist⟩
 ·show offI tgt a.i = _
  rw [h8]
  unfold offI
  rw [List.filter_map, List.filter_filter, List.filter_filter]
  refine congrArg _ (List.filter_congr fun t _ => ?_)
  simp [Bool.and_comm]
 ·show (offQ tgt a.q).Perm _
  unfold offQ
  refine (h9.filter _).trans ?_
  rw [List.filter_map, List.filter_filter, List.filter_filter]
  refine .of_eq (congrArg _ (List.filter_congr fun t _ => ?_))
  simp [Bool.and_comm]
theorem Rel.count {a : EvS} {er : List Str} {B : Bk} (h : Rel a er B) : kinds B.rows = a.i.length ∧ B.rows.length = a.q.length + a.i.length := by
 have key : ∀ l : List Row, (∀ t ∈ l, t.2.1 = 0 ∨ t.2.1 = 1) → kinds l = (l.filter fun t => decide (t.2.1 = 1)).length ∧ l.length = (l.filter fun t => decide (t.2.1 = 0)).length + (l.filter fun t => decide (t.2.1 = 1)).length := by
  intros l
  induction l with
  |nil => intros _; exact ⟨rfl, rfl⟩
  |cons t l ih =>
   intros hk
   obtain ⟨i1, i2⟩ := ih fun u hu => hk u (.tail _ hu)
   have e : kinds (t :: l) = t.2.1 + kinds l := rfl
   rcases hk t (.head _) with h0 | h0
   ·rw [e, List.filter_cons_of_neg (by simp [h0]), List.filter_cons_of_pos (by simp [h0])]
    simp only [List.length_cons]
    w_how
   ·rw [e, List.filter_cons_of_pos (by simp [h0]), List.filter_cons_of_neg (by simp [h0])]
    simp only [List.length_cons]
    w_how
 obtain ⟨k1, k2⟩ := key B.rows h.kd
 have e1 : a.i.length = (B.rows.filter fun t => decide (t.2.1 = 1)).length := by rw [h.i, List.length_map]
 have e2 := h.q.length_eq
 rw [List.length_map] at e2
 w_how
theorem done_rel {k wt : Int} {x : Str} {a b : EvS} {er : List Str} {B : Bk} (d : DoneR k wt x a b) (h : Rel a er B) (hk : 0 ≤ k) (hn : a.num < 1000000000) (h0 : 0 ≤ a.num) : Rel b er (bkOwn B k wt x) := by
 revert k wt x a b er B d h hk hn h0
 intro k wt x a b er B d h hk hn h0
 rcases d with ⟨rfl, c, hc, c1, c2, rfl⟩ | ⟨rfl, rfl⟩ | ⟨rfl, tgt, m, rfl⟩ | ⟨k0, k1, k2, rfl⟩
 ·obtain ⟨h1, h2, h3, h4, h5, h6, h7, h8, h9, h10⟩ := h
  rw [bkOwn_add (by decide), if_pos rfl]
  have hnum : ∀ t ∈ a.q, t.2.1 < a.num := fun t ht => by
   obtain ⟨u, hu, rfl⟩ := List.mem_map.mp (h9.mem_iff.mp ht)
   have := (h7 u (List.mem_filter.mp hu).1).2
   dsimp only; w_how
  refine ⟨h1, by dsimp only; w_how, ?_, h4, ?_, ?_, ?_, ?_, ?_, ?_⟩
  ·dsimp only; rw [h3, h2]
  ·intros t ht
   rcases List.mem_append.mp ht with ht | ht
   ·exact h5 t ht
   ·rw [List.mem_singleton.mp ht]; exact .inl rfl
  ·refine List.pairwise_append.mpr ⟨h6, List.pairwise_singleton .., fun t ht u hu => ?_⟩
   rw [List.mem_singleton.mp hu]
   exact (h7 t ht).2
  ·intros t ht
   dsimp only
   rcases List.mem_append.mp ht with ht | ht
   ·have := h7 t ht; w_how
   ·rw [List.mem_singleton.mp ht]; dsimp only; w_how
  ·dsimp only
   rw [List.filter_append, List.filter_cons_of_neg (by simp), List.filter_nil, List.append_nil]
   exact h8
  ·dsimp only
   rw [List.filter_append, List.filter_cons_of_pos (by simp), List.filter_nil, List.map_append, List.map_cons, List.map_nil, h2, h1]
   refine List.perm_middle.trans ?_
   rw [List.take_append_drop]
   exact (h9.cons _).trans (List.perm_append_singleton ..).symm
  ·dsimp only
   have hp := h10
   rw [← List.take_append_drop c a.q] at hp
   obtain ⟨p1, p2, p3⟩ := List.pairwise_append.mp hp
   refine List.pairwise_append.mpr ⟨p1, List.pairwise_cons.mpr ⟨fun y hy => ?_, p2⟩, fun z hz y hy => ?_⟩
   ·obtain ⟨j, hj, rfl⟩ := List.getElem_of_mem hy
    rw [List.getElem_drop]
    exact .inl (c1 _ _ (by w_how))
   ·rcases List.mem_cons.mp hy with rfl | hy
    ·have hz' := hnum z (List.mem_of_mem_take hz)
     obtain ⟨j, hj, rfl⟩ := List.getElem_of_mem hz
     rw [List.getElem_take] at hz' ⊢
     have hj' : j < c := by simp at hj; w_how
     have hq := c2 (c - 1) (by w_how) (by w_how)
     have hle : (a.q[j]'(by w_how)).1 ≤ (a.q[c - 1]'(by w_how)).1 := by
      by_cases e : j = c - 1
      ·subst e; exact Int.le_refl _
      ·have := List.pairwise_iff_getElem.mp h10 j (c - 1) (by w_how) (by w_how) (by w_how)
       rcases this with h | h <;> w_how
     unfold lexT
     dsimp only
     w_how
    ·exact p3 z hz y hy
 ·obtain ⟨h1, h2, h3, h4, h5, h6, h7, h8, h9, h10⟩ := h
  rw [bkOwn_add (by decide), if_neg (by decide)]
  refine ⟨h1, by dsimp only; w_how, ?_, h4, ?_, ?_, ?_, ?_, ?_, h10⟩
  ·dsimp only; rw [h3, h2]
  ·intros t ht
   rcases List.mem_append.mp ht with ht | ht
   ·exact h5 t ht
   ·rw [List.mem_singleton.mp ht]; exact .inr rfl
  ·refine List.pairwise_append.mpr ⟨h6, List.pairwise_singleton .., fun t ht u hu => ?_⟩
   rw [List.mem_singleton.mp hu]
   exact (h7 t ht).2
  ·intros t ht
   dsimp only
   rcases List.mem_append.mp ht with ht | ht
   ·have := h7 t ht; w_how
   ·rw [List.mem_singleton.mp ht]; dsimp only; w_how
  ·dsimp only
   rw [List.filter_append, List.filter_cons_of_pos (by simp), List.filter_nil, List.map_append, List.map_cons, List.map_nil, h2, h8]
  ·dsimp only
   rw [List.filter_append, List.filter_cons_of_neg (by simp), List.filter_nil, List.append_nil]
   exact h9
 ·rw [bkOwn_del rfl, h.tgt hn m]
  exact h.off tgt
 ·rw [bkOwn_now (by w_how) k2]
  obtain ⟨h1, h2, h3, h4, h5, h6, h7, h8, h9, h10⟩ := h
  exact ⟨by dsimp only; w_how, h2, h3, h4, h5, h6, h7, h8, h9, h10⟩
noncomputable def oerr : Option (Int × Str) → List Str
 |none => []
 |some (k, x) => [toldS k x]
theorem acts_rel {l : List Act} {a b : EvS} {o : Option (Int × Str)} (h : ActsR l a b o) : ∀ {er : List Str} {B : Bk}, Rel a er B → (∀ t ∈ l, 0 ≤ t.1) → EvB a l.length → Rel b (er ++ oerr o) (bkActs B l) := by
 induction h with
 |nil => intros er B h _ _; simpa [bkActs, oerr] using h
 |@stop n x l a =>
  intros er B h _ _
  unfold bkActs
  rw [if_pos rfl]
  obtain ⟨h1, h2, h3, h4, h5, h6, h7, h8, h9, h10⟩ := h
  exact ⟨h1, h2, h3, by dsimp only [oerr]; rw [h4], h5, h6, h7, h8, h9, h10⟩
 |@step k wt x l a b c o h1 h2 _ ih =>
  intros er B h hk hb
  unfold bkActs
  rw [if_neg h1]
  have n1 := hb.n1
  exact ih (done_rel h2 h (hk _ (.head _)) (by w_how) hb.n0) (fun t ht => hk t (.tail _ ht)) (done_B h2 hb)
theorem run_rel {l : List Act} {a a' b : EvS} {er er' : List Str} {B : Bk} {t : Row} (h : RunR l t.2.2.2 a' er b er') (R : Rel a er B) (hk : ∀ t ∈ l, 0 ≤ t.1) (hB : EvB a (l.length + 1)) (e : a' = { a with q := offQ (some t.1) a.q, i := offI (some t.1) a.i }) : Rel b er' (bkRun B l t) := by
 revert l a a' b er er' B t h R hk hB e
 intro l a a' b er er' B t h R hk hB e
 subst e
 obtain ⟨o, h, rfl⟩ := h
 have R1 := R.off (some t.1)
 obtain ⟨c1, c2⟩ := R1.count
 dsimp only at c1 c2
 have R2 : Rel (started { a with q := offQ (some t.1) a.q, i := offI (some t.1) a.i } t.2.2.2) er (bkLess B t) := by
  obtain ⟨h1, h2, h3, h4, h5, h6, h7, h8, h9, h10⟩ := R1
  refine ⟨h1, h2, ?_, h4, h5, h6, h7, h8, h9, h10⟩
  dsimp only at h1 h3
  simp only [bkLess, started, lgD]
  rw [h3, h1, c1, c2, show ((((offQ (some t.1) a.q).length + (offI (some t.1) a.i).length : Nat) : Int) - ((offI (some t.1) a.i).length : Int)) = ((offQ (some t.1) a.q).length : Int) by w_how]
 have goal9 : Rel b (er ++ oerr o) (bkActs (bkLess B t) l) := by
  refine acts_rel h R2 hk ?_
  have s1 : ((offQ (some t.1) a.q).map (·.2.1)).Sublist (a.q.map (·.2.1)) := (List.filter_sublist).map _
  have s2 : ((offI (some t.1) a.i).map (·.1)).Sublist (a.i.map (·.1)) := (List.filter_sublist).map _
  have hs := s1.append s2
  have l1 := s1.length_le
  have l2 := s2.length_le
  simp only [List.length_map] at l1 l2
  have n1 := hB.n1
  have n2 := hB.few
  have n3 := hB.log
  refine evB_of (hB.nd.sublist hs) (fun m hm => hB.nums m (hs.subset hm)) hB.n0 ?_ ?_ ?_
  ·dsimp only; w_how
  ·dsimp only; w_how
  ·dsimp only; simp only [List.length_append, List.length_cons, List.length_nil]; w_how
 rcases o with _ | ⟨k, x⟩ <;> exact goal9
theorem off_q {a : EvS} {n : Nat} {ti m : Int} {x : Str} {q' : List (Int × Int × Str)} (h : EvB a n) (e : a.q = (ti, m, x) :: q') : offQ (some m) a.q = q' ∧ offI (some m) a.i = a.i := by
 have nd := h.nd
 rw [e, List.map_cons, List.cons_append, List.nodup_cons] at nd
 obtain ⟨n1, _⟩ := nd
 simp only [List.mem_append, List.mem_map, not_or, not_exists, not_and] at n1
 rw [e]
 unfold offQ offI
 refine ⟨?_, List.filter_eq_self.mpr fun t ht => decide_eq_true fun e => n1.2 t ht (Option.some.inj e)⟩
 rw [List.filter_cons_of_neg (by simp)]
 exact List.filter_eq_self.mpr fun t ht => decide_eq_true fun e => n1.1 t ht (Option.some.inj e)
theorem off_i {a : EvS} {n : Nat} {m : Int} {x : Str} {i' : List (Int × Str)} (h : EvB a n) (e : a.i = (m, x) :: i') : offI (some m) a.i = i' ∧ offQ (some m) a.q = a.q := by
 have nd := h.nd
 rw [e, List.map_cons] at nd
 have nd := (List.perm_middle.nodup_iff).mp nd
 rw [List.nodup_cons] at nd
 obtain ⟨n1, _⟩ := nd
 simp only [List.mem_append, List.mem_map, not_or, not_exists, not_and] at n1
 rw [e]
 unfold offQ offI
 refine ⟨?_, List.filter_eq_self.mpr fun t ht => decide_eq_true fun e => n1.1 t ht (Option.some.inj e)⟩
 rw [List.filter_cons_of_neg (by simp)]
 exact List.filter_eq_self.mpr fun t ht => decide_eq_true fun e => n1.2 t ht (Option.some.inj e)
noncomputable def bkIdle (acts : Str → List Act) : Bk → List Row → Bk
 |B, [] => B
 |B, t :: l => bkIdle acts (if t ∈ B.rows then bkRun B (acts t.2.2.2) t else B) l
theorem own_old {B : Bk} {k wt last : Int} {x : Str} (h : last ≤ B.count) : last ≤ (bkOwn B k wt x).count ∧ ∀ u ∈ (bkOwn B k wt x).rows, u.1 < last → u ∈ B.rows := by
 by_cases h2 : k < 2
 ·rw [bkOwn_add h2]
  refine ⟨by dsimp only; w_how, fun u hu hl => ?_⟩
  rcases List.mem_append.mp hu with hu | hu
  ·exact hu
  ·rw [List.mem_singleton.mp hu] at hl; dsimp only at hl; w_how
 ·by_cases h3 : k = 2
  ·rw [bkOwn_del h3]
   exact ⟨h, fun u hu _ => (List.mem_filter.mp hu).1⟩
  ·rw [bkOwn_now h2 h3]
   exact ⟨h, fun u hu _ => hu⟩
theorem acts_old {last : Int} : ∀ {l : List Act} {B : Bk}, last ≤ B.count → last ≤ (bkActs B l).count ∧ ∀ u ∈ (bkActs B l).rows, u.1 < last → u ∈ B.rows
 |[], B, h => by unfold bkActs; exact ⟨h, fun u hu _ => hu⟩
 |(k, wt, x) :: l, B, h => by
  unfold bkActs
  by_cases h3 : k = 3
  ·rw [if_pos h3]; exact ⟨h, fun u hu _ => hu⟩
  ·rw [if_neg h3]
   obtain ⟨o1, o2⟩ := own_old (k := k) (wt := wt) (x := x) h
   obtain ⟨i1, i2⟩ := acts_old (l := l) o1
   exact ⟨i1, fun u hu hl => o2 u (i2 u hu hl) hl⟩
theorem run_old {last : Int} {l : List Act} {B : Bk} {t : Row} (h : last ≤ B.count) : last ≤ (bkRun B l t).count ∧ ∀ u ∈ (bkRun B l t).rows, u.1 < last → u ∈ B.rows ∧ u.1 ≠ t.1 := by
 obtain ⟨o1, o2⟩ := acts_old (l := l) (B := bkLess B t) (last := last) h
 refine ⟨o1, fun u hu hl => ?_⟩
 obtain ⟨m1, m2⟩ := List.mem_filter.mp (o2 u hu hl)
 exact ⟨m1, fun e => of_decide_eq_true m2 (by rw [e])⟩
theorem WfG.ten {L G P : Nat} {M : Int} {a : EvS} (h : WfG L M G P a) (h1 : L ≤ 40) (h2 : M ≤ 900000) (h3 : G ≤ 900000) : EvB a 10 := h.evB (by w_how) (by w_how) (by w_how)
theorem idle_rel {acts : Str → List Act} {last : Int} {j : Nat} (ok : ∀ nm ∈ sNames, ActsOk (wtN nm) (acts nm)) (hj : j ≤ 20) : ∀ {L : List Row} {a b : EvS} {er er' : List Str} {B : Bk}, Rel a er B → WfA j a → last ≤ B.count → L.Pairwise (fun x y => x.1 < y.1) → (∀ t ∈ L, t.2.1 = 1 ∧ t.1 < last) →
  (∀ t ∈ B.rows, t.2.1 = 1 → t.1 < last → t ∈ L) → IdleR acts last a er b er' → Rel b er' (bkIdle acts B L) := by
 intros L
 induction L with
 |nil =>
  intros a b er er' B R w hl _ _ hb h
  unfold bkIdle
  cases h with
  |stop _ => exact R
  |@step _ b _ _ er2 _ m x i' e hm _ _ =>
   have hi := R.i
   rw [e] at hi
   have : (m, x) ∈ (B.rows.filter fun t => decide (t.2.1 = 1)).map fun t => (t.1, t.2.2.2) := by rw [← hi]; exact .head _
   obtain ⟨t, ht, e2⟩ := List.mem_map.mp this
   cases e2
   obtain ⟨h1, h2⟩ := List.mem_filter.mp ht
   cases hb t h1 (of_decide_eq_true h2) hm
 |cons t L ih =>
  intros a b er er' B R w hl hp hL hb h
  obtain ⟨hp1, hp2⟩ := List.pairwise_cons.mp hp
  obtain ⟨ht1, ht2⟩ := hL t (.head _)
  unfold bkIdle
  by_cases hm : t ∈ B.rows
  ·rw [if_pos hm]
   have hin : t ∈ B.rows.filter fun t => decide (t.2.1 = 1) := List.mem_filter.mpr ⟨hm, decide_eq_true ht1⟩
   obtain ⟨u, l9, e9⟩ : ∃ u l9, (B.rows.filter fun t => decide (t.2.1 = 1)) = u :: l9 := by
    cases h : B.rows.filter fun t => decide (t.2.1 = 1) with
    |nil => rw [h] at hin; cases hin
    |cons u l9 => exact ⟨u, l9, rfl⟩
   have hpw := R.inc.sublist (List.filter_sublist (p := fun t : Row => decide (t.2.1 = 1)))
   rw [e9] at hpw hin
   have hu : u ∈ B.rows.filter fun t => decide (t.2.1 = 1) := by rw [e9]; exact .head _
   obtain ⟨hu1, hu2⟩ := List.mem_filter.mp hu
   have hut : u.1 ≤ t.1 := by
    rcases List.mem_cons.mp hin with rfl | h
    ·exact Int.le_refl _
    ·have := (List.pairwise_cons.mp hpw).1 t h; w_how
   have hu3 : u = t := by
    rcases List.mem_cons.mp (hb u hu1 (of_decide_eq_true hu2) (by w_how)) with h | h
    ·exact h
    ·have := hp1 u h; w_how
   subst hu3
   have hi : a.i = (u.1, u.2.2.2) :: l9.map fun t => (t.1, t.2.2.2) := by rw [R.i, e9, List.map_cons]
   have hnm : u.2.2.2 ∈ sNames := w.ni (u.1, u.2.2.2) (by rw [hi]; exact .head _)
   have oku := ok _ hnm
   cases h with
   |stop h =>
    have := h _ _ _ hi
    w_how
   |@step _ b2 _ _ er2 _ m x i' e hmm hr hrest =>
    rw [hi] at e
    obtain ⟨e1, e2⟩ := List.cons.inj e
    cases e1
    have hB : EvB a 10 := w.ten (by w_how) (by w_how) (by w_how)
    obtain ⟨f1, f2⟩ := off_i hB (hi.trans (by rw [e2]))
    have hlen := oku.len
    obtain ⟨w2, _⟩ := Less.runs hr oku w hj ⟨rfl, rfl, .inr ⟨rfl, u.1, hi.trans (by rw [e2])⟩⟩
    have R2 := run_rel hr R (fun t ht => (oku.kind t ht).1) (hB.less (by w_how)) (by rw [f1, f2])
    obtain ⟨o1, o2⟩ := run_old (l := acts u.2.2.2) (t := u) hl
    refine ih R2 w2 o1 hp2 (fun t ht => hL t (.tail _ ht)) (fun v hv v1 v2 => ?_) hrest
    obtain ⟨v3, v4⟩ := o2 v hv v2
    rcases List.mem_cons.mp (hb v v3 v1 v2) with h | h
    ·exact absurd (congrArg Prod.fst h) v4
    ·exact h
  ·rw [if_neg hm]
   refine ih R w hl hp2 (fun t ht => hL t (.tail _ ht)) (fun v hv v1 v2 => ?_) h
   rcases List.mem_cons.mp (hb v hv v1 v2) with h | h
   ·exact absurd (h ▸ hv) hm
   ·exact h
noncomputable def BkStepR (acts : Str → List Act) (wt : Bool) (B B' : Bk) (ret : Bool) : Prop :=
 ∃ tm : List (Int × Int × Row), tm.Perm ((B.rows.filter fun t => decide (t.2.1 = 0)).map fun t => (t.2.2.1, t.1, t)) ∧ (tm.Pairwise fun x y => x.1 < y.1 ∨ (x.1 = y.1 ∧ x.2.1 < y.2.1)) ∧
  ∃ B1, B1 = (match tm with | [] => B | t :: _ => if (B.rows.filter fun t => decide (t.2.1 = 1)) = [] ∧ wt = true ∧ B.now < t.1 then { B with now := t.1 } else B) ∧
   ((∃ ti n t tm', tm = (ti, n, t) :: tm' ∧ ti ≤ B1.now ∧ B' = bkRun B1 (acts t.2.2.2) t ∧ ret = true) ∨
    ((∀ ti n t tm', tm = (ti, n, t) :: tm' → B1.now < ti) ∧ B' = bkIdle acts B1 (B.rows.filter fun t => decide (t.2.1 = 1)) ∧ ret = !((B.rows.filter fun t => decide (t.2.1 = 1)).isEmpty)))
theorem perm_srt : ∀ {l l' : List (Int × Int × Str)}, l.Perm l' → l.Pairwise lexT → l'.Pairwise lexT → l = l'
 |[], l', h, _, _ => (List.nil_perm.mp h).symm
 |a :: l, l', h, h1, h2 => by
  cases l' with
  |nil => exact absurd (List.perm_nil.mp h) (by simp)
  |cons b l' =>
   have ha : a ∈ b :: l' := h.mem_iff.mp (.head _)
   have hb : b ∈ a :: l := h.mem_iff.mpr (.head _)
   have e : a = b := by
    rcases List.mem_cons.mp ha with e | ha
    ·exact e
    rcases List.mem_cons.mp hb with e | hb
    ·exact e.symm
    have g1 := (List.pairwise_cons.mp h1).1 b hb
    have g2 := (List.pairwise_cons.mp h2).1 a ha
    unfold lexT at g1 g2
    w_how
   subst e
   rw [perm_srt ((List.perm_cons a).mp h) (List.pairwise_cons.mp h1).2 (List.pairwise_cons.mp h2).2]
theorem Rel.at {a : EvS} {er : List Str} {B : Bk} (h : Rel a er B) (n : Int) : Rel { a with now := n } er { B with now := n } := by
 obtain ⟨h1, h2, h3, h4, h5, h6, h7, h8, h9, h10⟩ := h
 exact ⟨rfl, h2, h3, h4, h5, h6, h7, h8, h9, h10⟩
theorem WfG.at {L G P : Nat} {M : Int} {a : EvS} (h : WfG L M G P a) (n : Int) : WfG L M G P { a with now := n } := ⟨h.nd, h.lo, h.n0, h.nq, h.ni, h.len, h.num, h.log, h.pt⟩
theorem idle_A {acts : Str → List Act} {last : Int} {j : Nat} (ok : ∀ nm ∈ sNames, ActsOk (wtN nm) (acts nm)) (hj : j ≤ 20) {a b : EvS} {er er' : List Str} (h : IdleR acts last a er b er') : WfA j a → er.length ≤ a.log.length → WfA j b ∧ er'.length ≤ b.log.length ∧ pot b ≤ pot a ∧ (∀ m x i', a.i = (m, x) :: i' → m < last → pot b < pot a) := by
 induction h with
 |stop h => intros w hl; exact ⟨w, hl, Nat.le_refl _, fun m x i' e hm => by have := h m x i' e; w_how⟩
 |@step a b c er er' er'' m x i' e hm hr _ ih =>
  intros w hl
  obtain ⟨w2, p2⟩ := Less.runs hr (ok x (w.ni (m, x) (by rw [e]; exact .head _))) w hj ⟨rfl, rfl, .inr ⟨rfl, m, e⟩⟩
  obtain ⟨i1, i2, i3, _⟩ := ih w2 (hr.errs hl)
  exact ⟨i1, i2, by w_how, fun _ _ _ _ _ => by w_how⟩
theorem step_rel {acts : Str → List Act} {j : Nat} (ok : ∀ nm ∈ sNames, ActsOk (wtN nm) (acts nm)) (hj : j ≤ 20) {wt : Bool} {a b : EvS} {er er' : List Str} {B B' : Bk} {r1 r2 : Bool} (R : Rel a er B) (w : WfA j a) (hl : er.length ≤ a.log.length) (h : StepR acts wt a er b er' r1) (h2 : BkStepR acts wt B B' r2) :
  r1 = r2 ∧ Rel b er' B' ∧ WfA j b ∧ er'.length ≤ b.log.length ∧ (wt = true → B.rows ≠ [] → pot b < pot a) := by
 revert acts j ok hj wt a b er er' B B' r1 r2 R w hl h h2
 intro acts j ok hj wt a b er er' B B' r1 r2 R w hl h h2
 obtain ⟨a1, ea1, h⟩ := h
 obtain ⟨tm, tp, ts, B1, eB1, h2⟩ := h2
 have eq : a.q = tm.map fun p => (p.1, p.2.1, p.2.2.2.2.2) := by
  refine perm_srt (R.q.trans ?_) R.srt (List.pairwise_map.mpr (ts.imp fun h => h))
  have := tp.map (fun p : Int × Int × Row => (p.1, p.2.1, p.2.2.2.2.2))
  rw [List.map_map] at this
  exact this.symm
 have rel9 : ∀ p ∈ tm, p = (p.2.2.2.2.1, p.2.2.1, p.2.2) := fun p hp => by
  obtain ⟨t, _, e⟩ := List.mem_map.mp (tp.mem_iff.mp hp)
  rw [← e]
 have ei : (B.rows.filter fun t => decide (t.2.1 = 1)) = [] ↔ a.i = [] := by rw [R.i, List.map_eq_nil_iff]
 have some9 : B.rows ≠ [] → a.q ≠ [] ∨ a.i ≠ [] := fun h => by
  have h9 := R.count.2
  have : 0 < B.rows.length := List.length_pos_iff.mpr h
  by_cases e : a.q = []
  ·right; intros e2; rw [e, e2] at h9; simp only [List.length_nil] at h9; w_how
  ·exact .inl e
 have key : ∃ n, a1 = { a with now := n } ∧ B1 = { B with now := n } ∧ (n ≠ a.now → wt = true ∧ a.i = []) ∧ (wt = true → a.i = [] → ∀ t n' x q', a.q = (t, n', x) :: q' → t ≤ n) := by
  cases tm with
  |nil =>
   rw [List.map_nil] at eq
   have e1 : a1 = a := by rw [ea1, eq]; split <;> rfl
   exact ⟨a.now, e1, by rw [eB1, ← R.now], fun h => absurd rfl h, fun _ _ t n' x q' e => by rw [eq] at e; cases e⟩
  |cons p tm' =>
   rw [List.map_cons] at eq
   rw [eq] at ea1
   dsimp only at ea1 eB1
   by_cases hc : wt = true ∧ a.i = []
   ·rw [if_pos hc] at ea1
    refine ⟨max a.now p.1, ea1.trans (by rw [eq]), ?_, fun _ => hc, fun _ _ t n' x q' e => ?_⟩
    ·rw [eB1]
     by_cases hc2 : B.now < p.1
     ·rw [if_pos ⟨ei.mpr hc.2, hc.1, hc2⟩, R.now] at *
      rw [show max a.now p.1 = p.1 by w_how]
     ·rw [if_neg (fun h => hc2 h.2.2)]
      have := R.now
      rw [show max a.now p.1 = B.now by w_how]
    ·rw [eq] at e; cases e; w_how
   ·rw [if_neg hc] at ea1
    refine ⟨a.now, ea1, ?_, fun h => absurd rfl h, fun h1 h2 => absurd ⟨h1, h2⟩ hc⟩
    rw [eB1, if_neg (fun h => hc ⟨h.2.1, ei.mp h.1⟩), ← R.now]
 obtain ⟨n, rfl, rfl, hn1, hn2⟩ := key
 have R1 := R.at n
 have w1 : WfA j { a with now := n } := w.at n
 have hB : EvB { a with now := n } 10 := w1.ten (by w_how) (by w_how) (by w_how)
 rcases h with ⟨t, m, x, q', e, ht, hr, rfl⟩ | ⟨hq, hi, hr, rfl⟩ | ⟨hq, hi, rfl, rfl, rfl⟩
 ·have hnm := w.nq (t, m, x) (by rw [e]; exact .head _)
  have okx := ok x hnm
  have hlen := okx.len
  obtain ⟨w2, p2⟩ := Less.runs hr okx w1 hj ⟨rfl, rfl, .inl ⟨rfl, t, m, e⟩⟩
  obtain ⟨f1, f2⟩ := off_q hB e
  cases tm with
  |nil => rw [eq] at e; cases e
  |cons p tm' =>
   obtain ⟨p1, p2', p3⟩ := p
   rw [List.map_cons] at eq
   have e' := eq.symm.trans e
   obtain ⟨e1, e2⟩ := List.cons.inj e'
   cases e1
   have e3 := rel9 _ (.head _)
   dsimp only at e3
   have hm : p2' = p3.1 := congrArg (fun p => p.2.1) e3
   rcases h2 with ⟨ti, n', t', tm2, e4, h5, rfl, rfl⟩ | ⟨h5, _⟩
   ·cases e4
    refine ⟨rfl, ?_, w2, hr.errs (by exact hl), fun _ _ => p2⟩
    dsimp only at hlen
    refine run_rel (t := p3) hr R1 (fun t ht => (okx.kind t ht).1) (hB.less (by w_how)) ?_
    rw [← hm, f1, f2]
   ·have := h5 _ _ _ _ rfl
    dsimp only at this ht
    w_how
 ·have hne : (B.rows.filter fun t => decide (t.2.1 = 1)) ≠ [] := fun e => hi (ei.mp e)
  have hpw := R.inc.sublist (List.filter_sublist (p := fun t : Row => decide (t.2.1 = 1)))
  obtain ⟨g1, g2, g3, g4⟩ := idle_A ok hj hr w1 hl
  have hdec : pot b < pot a := by
   cases h9 : a.i with
   |nil => exact absurd h9 hi
   |cons p i' =>
    obtain ⟨m, x⟩ := p
    refine g4 m x i' h9 ?_
    have h10 : m ∈ a.q.map (·.2.1) ++ a.i.map (·.1) := by rw [h9]; simp
    exact (w.lo m h10).2
  rcases h2 with ⟨ti, n', t', tm2, e4, h5, rfl, rfl⟩ | ⟨h5, rfl, rfl⟩
  ·rw [e4, List.map_cons] at eq
   have := hq _ _ _ _ eq
   dsimp only at this h5
   w_how
  ·refine ⟨by cases h : B.rows.filter fun t => decide (t.2.1 = 1) with | nil => exact absurd h hne | cons _ _ => rfl, ?_, g1, g2, fun _ _ => hdec⟩
   refine idle_rel ok hj R1 w1 (Int.le_of_eq R.num.symm) hpw (fun t ht => ?_) (fun t ht h1 _ => ?_) hr
   ·obtain ⟨m1, m2⟩ := List.mem_filter.mp ht
    exact ⟨of_decide_eq_true m2, by have := (R.lo t m1).2; rw [R.num] at this; exact this⟩
   ·exact List.mem_filter.mpr ⟨ht, decide_eq_true h1⟩
 ·have hne := ei.mpr hi
  rcases h2 with ⟨ti, n', t', tm2, e4, h5, rfl, rfl⟩ | ⟨h5, rfl, rfl⟩
  ·rw [e4, List.map_cons] at eq
   have := hq _ _ _ _ eq
   dsimp only at this h5
   w_how
  ·rw [hne]
   refine ⟨rfl, R1, w1, hl, fun h1 h2 => ?_⟩
   rcases some9 h2 with h | h
   ·cases hq2 : a.q with
    |nil => exact absurd hq2 h
    |cons p q' =>
     obtain ⟨t, m, x⟩ := p
     have h6 := hq t m x q' hq2
     have h7 := hn2 h1 hi t m x q' hq2
     dsimp only at h6
     w_how
   ·exact absurd hi h
theorem deed_rel {k wt : Int} {x : Str} {a b : EvS} {er : List Str} {B : Bk} {j : Nat} (d : DoneR k wt x a b) (h : Rel a er B) (w : WfA j a) (hx : isAdd (k, wt, x) = true → x ∈ sNames) (hj : j ≤ 20) (hk : 0 ≤ k) (hl : er.length ≤ a.log.length) : Rel b er (bkOwn B k wt x) ∧ WfA (j + 1) b ∧ er.length ≤ b.log.length := by
 have hB : EvB a 10 := w.ten (by w_how) (by w_how) (by w_how)
 have n1 := hB.n1
 refine ⟨done_rel d h hk (by w_how) hB.n0, deed_A d w hx hj, ?_⟩
 rcases d with ⟨_, c, _, _, _, rfl⟩ | ⟨_, rfl⟩ | ⟨_, tgt, _, rfl⟩ | ⟨_, _, _, rfl⟩ <;> simp <;> w_how


end
theorem In_P5.in_P5 : True := trivial
noncomputable section
open In_P5 Off9 Noi9
theorem ok_app {x y : Str} (h : PyData.strOk x = true) (h' : PyData.strOk y = true) : PyData.strOk (x ++ y) = true := by
 unfold PyData.strOk at h h' ⊢
 rw [PySem.Str.cps_append, Array.all_append, h, h']
 rfl
theorem ok_of (s : String) : PyData.strOk (Str.ofString s) = true := by
 unfold PyData.strOk
 rw [PySem.Str.ofString_eq_toList]
 simp only [List.all_toArray, List.all_map, List.all_eq_true, Function.comp_apply, decide_eq_true_eq]
 intro c _
 have := c.valid
 unfold UInt32.isValidChar Nat.isValidChar at this
 simp only [Char.toNat]
 w_how
theorem aft_ok (n : Int) : PyData.strOk (aft n) = true := ok_app (ok_of _) (ok_of _)
theorem told_ok {k : Int} {x : Str} (h : PyData.strOk x = true) : PyData.strOk (toldS k x) = true := by
 unfold toldS
 split
 ·exact h
 split
 ·exact ok_of _
 split
 ·exact ok_of _
 ·exact ok_app (ok_of _) (ok_of _)
structure OkL (a : EvS) (er : List Str) : Prop where
 log : ∀ d ∈ a.log, kqdOk 8 d = true
 err : ∀ x ∈ er, PyData.strOk x = true
theorem done_ok {k wt : Int} {x : Str} {a b : EvS} {er : List Str} (d : DoneR k wt x a b) (h : OkL a er) : OkL b er := by
 obtain ⟨h1, h2⟩ := h
 have key : ∀ n, ∀ d ∈ a.log ++ [Dat.str (aft n)], kqdOk 8 d = true := fun n d hd => by
  rcases List.mem_append.mp hd with hd | hd
  ·exact h1 d hd
  ·rw [List.mem_singleton.mp hd]; exact aft_ok n
 rcases d with ⟨_, c, _, _, _, rfl⟩ | ⟨_, rfl⟩ | ⟨_, tgt, _, rfl⟩ | ⟨_, _, _, rfl⟩
 ·exact ⟨key _, h2⟩
 ·exact ⟨key _, h2⟩
 ·exact ⟨h1, h2⟩
 ·exact ⟨h1, h2⟩
theorem acts_ok {l : List Act} {a b : EvS} {o : Option (Int × Str)} (h : ActsR l a b o) : ∀ {er : List Str}, OkL a er → (∀ t ∈ l, t.1 = 3 → PyData.strOk t.2.2 = true) → OkL b (er ++ oerr o) := by
 induction h with
 |nil => intro er h _; simpa [oerr] using h
 |stop =>
  intro er h hs
  refine ⟨h.log, fun x hx => ?_⟩
  rcases List.mem_append.mp hx with hx | hx
  ·exact h.err x hx
  ·simp only [oerr, List.mem_singleton] at hx
   rw [hx]
   exact told_ok (hs _ (.head _) rfl)
 |step _ h2 _ ih =>
  intro er h hs
  exact ih (done_ok h2 h) fun t ht => hs t (.tail _ ht)
theorem run_ok {l : List Act} {nm : Str} {a b : EvS} {er er' : List Str} (h : RunR l nm a er b er') (hn : nm ∈ sNames) (ok : ActsOk (wtN nm) l) (o : OkL a er) : OkL b er' := by
 obtain ⟨op, h, rfl⟩ := h
 have o2 : OkL (started a nm) er := ⟨fun d hd => by
  rcases List.mem_append.mp hd with hd | hd
  ·exact o.log d hd
  ·rw [List.mem_singleton.mp hd]
   have := names_ok nm hn
   simp [lgD, kqdOk, this], o.err⟩
 have g := acts_ok h o2 ok.says
 rcases op with _ | ⟨k, x⟩ <;> exact g
theorem idle_ok {acts : Str → List Act} {last : Int} {j : Nat} (ok : ∀ nm ∈ sNames, ActsOk (wtN nm) (acts nm)) (hj : j ≤ 20) {a b : EvS} {er er' : List Str} (h : IdleR acts last a er b er') : WfA j a → OkL a er → OkL b er' := by
 induction h with
 |stop h => intro _ o; exact o
 |@step a b c er er' er'' m x i' e hm hr _ ih =>
  intro w o
  have hn := w.ni (m, x) (by rw [e]; exact .head _)
  obtain ⟨w2, p2⟩ := Less.runs hr (ok x hn) w hj ⟨rfl, rfl, .inr ⟨rfl, m, e⟩⟩
  exact ih w2 (run_ok hr hn (ok x hn) ⟨o.log, o.err⟩)
theorem step_ok {acts : Str → List Act} {j : Nat} (ok : ∀ nm ∈ sNames, ActsOk (wtN nm) (acts nm)) (hj : j ≤ 20) {wt : Bool} {a b : EvS} {er er' : List Str} {r1 : Bool} (w : WfA j a) (o : OkL a er) (h : StepR acts wt a er b er' r1) : OkL b er' := by
 obtain ⟨a1, ea1, h⟩ := h
 have key : ∃ n, a1 = { a with now := n } := by
  rw [ea1]
  split
  ·split
   ·exact ⟨a.now, rfl⟩
   ·exact ⟨_, rfl⟩
  ·exact ⟨a.now, rfl⟩
 obtain ⟨n, rfl⟩ := key
 have o1 : OkL { a with now := n } er := ⟨o.log, o.err⟩
 rcases h with ⟨t, m, x, q', e, ht, hr, rfl⟩ | ⟨hq, hi, hr, rfl⟩ | ⟨hq, hi, rfl, rfl, rfl⟩
 ·have hn := w.nq (t, m, x) (by rw [e]; exact .head _)
  exact run_ok hr hn (ok x hn) ⟨o.log, o.err⟩
 ·exact idle_ok ok hj hr (w.at n) o1
 ·exact o1
noncomputable def potK (B : Bk) : Nat := potL (B.rows.map (·.2.2.2))
structure WfK (L : Nat) (M : Int) (G P : Nat) (B : Bk) : Prop where
 nd : (B.rows.map (·.1)).Nodup
 lo : ∀ t ∈ B.rows, 0 ≤ t.1 ∧ t.1 < B.count
 c0 : 0 ≤ B.count
 nm : ∀ t ∈ B.rows, t.2.2.2 ∈ sNames
 kd : ∀ t ∈ B.rows, t.2.1 = 0 ∨ t.2.1 = 1
 len : B.rows.length ≤ L
 num : B.count + potK B ≤ M
 log : B.log.length + 2 * potK B ≤ G
 pt : potK B ≤ P
 err : B.errs.length ≤ B.log.length
theorem WfK.bkB {L G P n : Nat} {M : Int} {B : Bk} (h : WfK L M G P B) (h1 : L + n ≤ 59) (h2 : M + n ≤ 999999) (h3 : G + n ≤ 999999) : BkB B n :=
 ⟨h.nd, h.lo, h.c0, by have := h.num; w_how, by have := h.len; w_how, by have := h.log; w_how, by have := h.log; have := h.err; w_how, fun t ht => names_ok _ (h.nm t ht)⟩
theorem own_K {k wt : Int} {x : Str} {B : Bk} {L G P W : Nat} {M : Int} (w : WfK L M G P B) (hk : 0 ≤ k) (hx : isAdd (k, wt, x) = true → x ∈ sNames ∧ wtN x ≤ W) :
  if isAdd (k, wt, x) = true then WfK (L + 1) (M + W + 1) (G + 2 * W + 1) (P + W) (bkOwn B k wt x) else WfK L M G P (bkOwn B k wt x) := by
 obtain ⟨nd, lo, c0, nm, kd, len, num, log, pt, err⟩ := w
 by_cases h2 : k < 2
 ·have hi : isAdd (k, wt, x) = true := decide_eq_true (by dsimp only; w_how)
  rw [if_pos hi, bkOwn_add h2]
  obtain ⟨x1, x2⟩ := hx hi
  have hp : ∀ y, potK { B with rows := B.rows ++ [(B.count, k, y, x)], log := B.log ++ [.str (aft B.count)], count := B.count + 1 } = potK B + wtN x := fun y => by
   unfold potK
   dsimp only
   rw [List.map_append, potL_append, List.map_cons, List.map_nil, potL_cons]
   rfl
  refine ⟨?_, ?_, by dsimp only; w_how, ?_, ?_, by simp; w_how, by rw [hp]; dsimp only; w_how, ?_, by rw [hp]; w_how, by simp; w_how⟩
  ·simp only [List.map_append, List.map_cons, List.map_nil]
   refine List.nodup_append.mpr ⟨nd, by simp, ?_⟩
   intro a ha b hb
   obtain ⟨u, hu, rfl⟩ := List.mem_map.mp ha
   have := (lo u hu).2
   simp at hb
   w_how
  ·intro t ht
   dsimp only at ht ⊢
   rcases List.mem_append.mp ht with ht | ht
   ·have := lo t ht; w_how
   ·rw [List.mem_singleton.mp ht]; dsimp only; w_how
  ·intro t ht
   rcases List.mem_append.mp ht with ht | ht
   ·exact nm t ht
   ·rw [List.mem_singleton.mp ht]; exact x1
  ·intro t ht
   rcases List.mem_append.mp ht with ht | ht
   ·exact kd t ht
   ·rw [List.mem_singleton.mp ht]; dsimp only; w_how
  ·rw [hp]; simp only [List.length_append, List.length_cons, List.length_nil]; w_how
 ·have hi : ¬ isAdd (k, wt, x) = true := fun h => by have := of_decide_eq_true h; dsimp only at this; w_how
  rw [if_neg hi]
  by_cases h3 : k = 2
  ·rw [bkOwn_del h3]
   have hs : (B.rows.filter fun t => decide (some t.1 ≠ bkTgt B.rows x)).Sublist B.rows := List.filter_sublist
   have hp : potK { B with rows := B.rows.filter fun t => decide (some t.1 ≠ bkTgt B.rows x) } ≤ potK B := potL_sub (hs.map _)
   have hl := hs.length_le
   exact ⟨nd.sublist (hs.map _), fun t ht => lo t (hs.subset ht), c0, fun t ht => nm t (hs.subset ht), fun t ht => kd t (hs.subset ht), by dsimp only; w_how, by dsimp only at hp ⊢; w_how, by dsimp only at hp ⊢; w_how, by w_how, err⟩
  ·rw [bkOwn_now h2 h3]
   exact ⟨nd, lo, c0, nm, kd, len, num, log, pt, err⟩
theorem own_err {k wt : Int} {x : Str} {B : Bk} (h : B.errs.length + 1 ≤ B.log.length) : (bkOwn B k wt x).errs.length + 1 ≤ (bkOwn B k wt x).log.length := by
 rw [bkOwn_errs]
 by_cases h2 : k < 2
 ·rw [bkOwn_add h2]; simp; w_how
 ·by_cases h3 : k = 2
  ·rw [bkOwn_del h3]; exact h
  ·rw [bkOwn_now h2 h3]; exact h
theorem acts_K0 : ∀ {l : List Act} {B : Bk} {L G P : Nat} {M : Int}, WfK L M G P B → B.errs.length + 1 ≤ B.log.length → (∀ t ∈ l, 0 ≤ t.1) → l.countP isAdd = 0 → WfK L M G P (bkActs B l)
 |[], B, L, G, P, M, w, _, _, _ => by unfold bkActs; exact w
 |(k, wt, x) :: l, B, L, G, P, M, w, he, hk, hc => by
  rw [List.countP_cons] at hc
  have hi : ¬ isAdd (k, wt, x) = true := fun hi => by rw [if_pos hi] at hc; w_how
  unfold bkActs
  by_cases h3 : k = 3
  ·rw [if_pos h3]
   exact ⟨w.nd, w.lo, w.c0, w.nm, w.kd, w.len, w.num, w.log, w.pt, by dsimp only; rw [List.length_append]; exact he⟩
  ·rw [if_neg h3]
   have g := own_K (W := 0) w (hk _ (.head _)) (fun q => absurd q hi)
   rw [if_neg hi] at g
   exact acts_K0 g (own_err he) (fun t ht => hk t (.tail _ ht)) (by w_how)
theorem acts_K : ∀ {l : List Act} {B : Bk} {L G P W : Nat} {M : Int}, WfK L M G P B → B.errs.length + 1 ≤ B.log.length → (∀ t ∈ l, 0 ≤ t.1) → (∀ t ∈ l, isAdd t = true → t.2.2 ∈ sNames ∧ wtN t.2.2 ≤ W) → l.countP isAdd ≤ 1 → WfK L M G P (bkActs B l) ∨ WfK (L + 1) (M + W + 1) (G + 2 * W + 1) (P + W) (bkActs B l)
 |[], B, L, G, P, W, M, w, _, _, _, _ => by unfold bkActs; exact .inl w
 |(k, wt, x) :: l, B, L, G, P, W, M, w, he, hk, hx, hc => by
  rw [List.countP_cons] at hc
  unfold bkActs
  by_cases h3 : k = 3
  ·rw [if_pos h3]
   exact .inl ⟨w.nd, w.lo, w.c0, w.nm, w.kd, w.len, w.num, w.log, w.pt, by dsimp only; rw [List.length_append]; exact he⟩
  ·rw [if_neg h3]
   have g := own_K (W := W) w (hk _ (.head _)) (fun q => hx _ (.head _) q)
   by_cases hi : isAdd (k, wt, x) = true
   ·rw [if_pos hi] at hc g
    exact .inr (acts_K0 g (own_err he) (fun t ht => hk t (.tail _ ht)) (by w_how))
   ·rw [if_neg hi] at hc g
    exact acts_K g (own_err he) (fun t ht => hk t (.tail _ ht)) (fun t ht => hx t (.tail _ ht)) (by w_how)
noncomputable abbrev WfKA (k : Nat) (B : Bk) : Prop := WfK k (6 * k) (11 * k) (5 * k) B
theorem potL_mem {rows : List Row} {t : Row} (nd : (rows.map (·.1)).Nodup) (ht : t ∈ rows) : potL (rows.map (·.2.2.2)) = wtN t.2.2.2 + potL ((rows.filter fun u => decide (some u.1 ≠ some t.1)).map (·.2.2.2)) ∧ rows.length = (rows.filter fun u => decide (some u.1 ≠ some t.1)).length + 1 := by
 induction rows with
 |nil => cases ht
 |cons a rows ih =>
  rw [List.map_cons, List.nodup_cons] at nd
  obtain ⟨n1, n2⟩ := nd
  rcases List.mem_cons.mp ht with rfl | ht
  ·rw [List.filter_cons_of_neg (by simp), List.filter_eq_self.mpr, List.map_cons, potL_cons]
   ·exact ⟨rfl, rfl⟩
   ·exact fun u hu => decide_eq_true fun e => n1 (List.mem_map.mpr ⟨u, hu, Option.some.inj e⟩)
  ·have hne : a.1 ≠ t.1 := fun e => n1 (List.mem_map.mpr ⟨t, ht, e.symm⟩)
   obtain ⟨i1, i2⟩ := ih n2 ht
   rw [List.filter_cons_of_pos (by simpa using hne), List.map_cons, potL_cons, List.map_cons, potL_cons, List.length_cons, List.length_cons]
   w_how
theorem run_K {l : List Act} {B : Bk} {t : Row} {k : Nat} (w : WfKA k B) (ht : t ∈ B.rows) (ok : ActsOk (wtN t.2.2.2) l) : WfKA k (bkRun B l t) := by
 obtain ⟨nd, lo, c0, nm, kd, len, num, log, pt, err⟩ := w
 obtain ⟨p1, p2⟩ := potL_mem nd ht
 have hs : (B.rows.filter fun u => decide (some u.1 ≠ some t.1)).Sublist B.rows := List.filter_sublist
 have hpl : potK (bkLess B t) = potL ((B.rows.filter fun u => decide (some u.1 ≠ some t.1)).map (·.2.2.2)) := rfl
 have hpb : potK B = potL (B.rows.map (·.2.2.2)) := rfl
 have wp := wtN_pos t.2.2.2
 have wl := wtN_le t.2.2.2
 have w1 : WfK (k - 1) (B.count + potK (bkLess B t)) (B.log.length + 1 + 2 * potK (bkLess B t)) (potK (bkLess B t)) (bkLess B t) := by
  refine ⟨nd.sublist (hs.map _), fun u hu => lo u (hs.subset hu), c0, fun u hu => nm u (hs.subset hu), fun u hu => kd u (hs.subset hu), ?_, Int.le_refl _, ?_, Nat.le_refl _, ?_⟩
  ·show (B.rows.filter fun u => decide (some u.1 ≠ some t.1)).length ≤ _; w_how
  ·simp only [bkLess, List.length_append, List.length_cons, List.length_nil]; w_how
  ·simp only [bkLess, List.length_append, List.length_cons, List.length_nil]; w_how
 have he : (bkLess B t).errs.length + 1 ≤ (bkLess B t).log.length := by simp only [bkLess, List.length_append, List.length_cons, List.length_nil]; w_how
 have hlen : 1 ≤ k := by w_how
 rcases acts_K (W := wtN t.2.2.2 - 1) w1 he (fun u hu => (ok.kind u hu).1) (fun u hu q => ⟨(ok.adds u hu q).1, by have := (ok.adds u hu q).2; w_how⟩) ok.one with g | g
 ·exact ⟨g.nd, g.lo, g.c0, g.nm, g.kd, by have := g.len; unfold bkRun; w_how, by have := g.num; unfold bkRun; w_how, by have := g.log; unfold bkRun; w_how, by have := g.pt; unfold bkRun; w_how, g.err⟩
 ·exact ⟨g.nd, g.lo, g.c0, g.nm, g.kd, by have := g.len; unfold bkRun; w_how, by have := g.num; unfold bkRun; w_how, by have := g.log; unfold bkRun; w_how, by have := g.pt; unfold bkRun; w_how, g.err⟩
theorem Rel.wfK {a : EvS} {er : List Str} {B : Bk} {j : Nat} (R : Rel a er B) (w : WfA j a) (hl : er.length ≤ a.log.length) : WfKA j B := by
 have hp : potK B = pot a := by
  have key : ∀ l : List Row, (∀ t ∈ l, t.2.1 = 0 ∨ t.2.1 = 1) → potL (l.map (·.2.2.2)) = potL ((l.filter fun t => decide (t.2.1 = 0)).map (·.2.2.2)) + potL ((l.filter fun t => decide (t.2.1 = 1)).map (·.2.2.2)) := by
   intro l
   induction l with
   |nil => intro _; rfl
   |cons t l ih =>
    intro hk
    have i := ih fun u hu => hk u (.tail _ hu)
    rcases hk t (.head _) with h0 | h0
    ·rw [List.filter_cons_of_pos (by simp [h0]), List.filter_cons_of_neg (by simp [h0]), List.map_cons, potL_cons, List.map_cons, potL_cons]; w_how
    ·rw [List.filter_cons_of_neg (by simp [h0]), List.filter_cons_of_pos (by simp [h0]), List.map_cons, potL_cons, List.map_cons, potL_cons]; w_how
  have e1 : potL (a.q.map (·.2.2)) = potL ((B.rows.filter fun t => decide (t.2.1 = 0)).map (·.2.2.2)) := by
   have := ((R.q.map (·.2.2)).map wtN).sum_nat
   unfold potL
   rw [List.map_map] at this ⊢
   rw [this, List.map_map, List.map_map, List.map_map]
   rfl
  have e2 : a.i.map (·.2) = (B.rows.filter fun t => decide (t.2.1 = 1)).map (·.2.2.2) := by rw [R.i, List.map_map]; rfl
  unfold potK pot
  rw [key B.rows R.kd, e1, e2]
 obtain ⟨c1, c2⟩ := R.count
 have hnum := R.num
 have hlog := R.log
 have herr := R.errs
 obtain ⟨nd, lo, n0, nq, ni, len, num, log, pt⟩ := w
 refine ⟨List.pairwise_map.mpr (R.inc.imp fun h => Int.ne_of_lt h), R.lo, by w_how, fun t ht => ?_, R.kd, by w_how, by w_how, by rw [hlog]; w_how, by w_how, by rw [hlog, herr]; exact hl⟩
 rcases R.kd t ht with h0 | h0
 ·exact nq (t.2.2.1, t.1, t.2.2.2) (R.q.mem_iff.mpr (List.mem_map.mpr ⟨t, List.mem_filter.mpr ⟨ht, decide_eq_true h0⟩, rfl⟩))
 ·exact ni (t.1, t.2.2.2) (by rw [R.i]; exact List.mem_map.mpr ⟨t, List.mem_filter.mpr ⟨ht, decide_eq_true h0⟩, rfl⟩)

end
theorem In_F7.in_F7 : True := trivial
noncomputable section
open In_F7
theorem wrd_F7_1 : True := by
 k_with "my call ref" => ((fail_if_success (fail_if_success (have h9 := in_F7))); (((have halt9 := (by assumption : HaltC)); (with_reducible show wpAny _ _ (call (Value.ref 604) _) _ _ _); refine Stop.out ?_)))
 k_with "my exec For" => ((fail_if_success (fail_if_success (have h9 := in_F7))); (((have halt9 := (by assumption : HaltC)); (with_reducible show wpAny _ _ (exec (Stmt.For _ _ _ [] _) _) _ _ _); (rename Fr _ _ _ _ => lF'); (with_unfolding_all refine For_invVF lF' (by exact rfl) (by exact rfl) ?_))))
 k_with "my eval ListComp" => ((fail_if_success (fail_if_success (have h9 := in_F7))); (((have halt9 := (by assumption : HaltC)); k_here; k_dflt (refine LCg.ListComp_U (F₀ := by k_asm) (by with_unfolding_all rfl) (by decide) (by rfl) (by decide) (by rfl) ?_))))
 k_with "my call builtin:sum" => ((fail_if_success (fail_if_success (have h9 := in_F7))); (((have halt9 := (by assumption : HaltC)); refine Stop.out ?_)))
 k_with "my CompSrc" => ((fail_if_success (fail_if_success (have h9 := in_F7))); (((have halt9 := (by assumption : HaltC)); refine Stop.out ?_)))
 trivial
theorem ints_snoc {k : Int} {t : Tok} : ∀ {ys : List Value} {ns : List Int}, IntsAre ys ns → IntsAre (ys ++ [.int k t]) (ns ++ [k])
 |_, _, .nil => .cons k t .nil
 |_, _, .cons a u h => .cons a u (ints_snoc h)
theorem BkRep.mono {prog : Program} {w : World} {r r' : Led} {C : BkC} {B : Bk} (h : BkRep prog w r C B) (hs : ∀ p ∈ r, p ∈ r') : BkRep prog w r' C B := ⟨h.dict, h.rows.mono hs, h.errs, h.log.mono hs⟩
theorem er_push {h₀ h : Heap} {L bk rw er : Addr} {ob orw : Obj} {ev : List Value} {y : Str} {t : Tok} {en : Nat} {l : Led} (_ : News h₀ L h ((bk, ob) :: (rw, orw) :: (er, listOf (ev ++ [Value.str y t]).toArray en) :: l)) : ∃ t', t' = t := ⟨_, rfl⟩
theorem BkS.more {bk : Addr} {C : BkC} {mt r add : Led} (S : BkS bk C.rw C.er C.lg (mt ++ r)) (hn : New (bkL bk C (mt ++ r)) add) : BkS bk C.rw C.er C.lg (mt ++ (add ++ r)) := by
 refine ⟨S.nd, fun p hp => ?_⟩
 rcases List.mem_append.mp hp with hp | hp
 ·exact S.off p (List.mem_append_left _ hp)
 rcases List.mem_append.mp hp with hp | hp
 ·intros hm
  simp only [List.mem_cons, List.not_mem_nil, or_false] at hm
  have h1 := hn p hp
  rcases hm with hm | hm | hm | hm
  ·exact h1 (bk, C.o) (by first | k_mem | simp) hm.symm
  ·exact h1 (C.rw, listOf C.rv.toArray C.rn) (by first | k_mem | simp) hm.symm
  ·exact h1 (C.er, listOf C.ev.toArray C.en) (by first | k_mem | simp) hm.symm
  ·exact h1 (C.lg, listOf C.lv.toArray C.ln) (by first | k_mem | simp) hm.symm
 ·exact S.off p (List.mem_append_right _ hp)
theorem BkS.front {bk : Addr} {C : BkC} {own t : Led} (S : BkS bk C.rw C.er C.lg t) (h : ∀ q ∈ bkL bk C [], ∀ p ∈ own, p.1 ≠ q.1) : BkS bk C.rw C.er C.lg (own ++ t) := by
 refine ⟨S.nd, fun p hp => ?_⟩
 rcases List.mem_append.mp hp with hp | hp
 ·have q5 := fun q hq => h q hq p hp
  simp only [List.mem_cons, List.not_mem_nil, or_false, not_or]
  exact ⟨q5 (bk, C.o) (by first | k_mem | simp), q5 (C.rw, listOf C.rv.toArray C.rn) (by first | k_mem | simp), q5 (C.er, listOf C.ev.toArray C.en) (by first | k_mem | simp), q5 (C.lg, listOf C.lv.toArray C.ln) (by first | k_mem | simp)⟩
 ·exact S.off p hp
theorem BkS.one {bk rw er lg : Addr} {a : Addr} {o : Obj} {t : Led} (S : BkS bk rw er lg t) (h1 : a ≠ bk) (h2 : a ≠ rw) (h3 : a ≠ er) (h4 : a ≠ lg) : BkS bk rw er lg ((a, o) :: t) := by
 refine ⟨S.nd, fun p hp => ?_⟩
 rcases List.mem_cons.mp hp with rfl | hp
 ·simp only [List.mem_cons, List.not_mem_nil, or_false, not_or]
  exact ⟨h1, h2, h3, h4⟩
 ·exact S.off p hp
theorem New.moved {bk : Addr} {C C' : BkC} {t add : Led} (h : New (bkL bk C' t) add) (h1 : C'.rw = C.rw) (h2 : C'.er = C.er) (h3 : C'.lg = C.lg) : New (bkL bk C t) add := new_map h fun p hp => by
 simp only [bkL, List.mem_cons, List.map_cons] at hp ⊢
 rcases hp with rfl | rfl | rfl | rfl | hp
 ·exact .inl rfl
 ·exact .inr (.inl h1.symm)
 ·exact .inr (.inr (.inl h2.symm))
 ·exact .inr (.inr (.inr (.inl h3.symm)))
 ·exact .inr (.inr (.inr (.inr (List.mem_map_of_mem hp))))
theorem New.sub {news news' add : Led} (h : New news add) (hs : ∀ p ∈ news', p ∈ news) : New news' add := new_sub h hs
theorem BkS.as {bk : Addr} {C C' : BkC} {t : Led} (S : BkS bk C.rw C.er C.lg t) (h1 : C'.rw = C.rw) (h2 : C'.er = C.er) (h3 : C'.lg = C.lg) : BkS bk C'.rw C'.er C'.lg t := by rw [h1, h2, h3]; exact S
theorem own_off {bk : Addr} {C C' : BkC} {own T U add : Led} (hown : ∀ q ∈ bkL bk C [] ++ T, ∀ p ∈ own, p.1 ≠ q.1) (h1 : C'.rw = C.rw) (h2 : C'.er = C.er) (h3 : C'.lg = C.lg) (hn : New U add) (hU : ∀ p ∈ own, p ∈ U) : ∀ p ∈ bkL bk C' [] ++ add, ∀ q ∈ own, q.1 ≠ p.1 := by
 intros p hp q hq
 have q5 := fun u hu => hown u (List.mem_append_left _ hu) q hq
 rcases List.mem_append.mp hp with hp | hp
 ·simp only [bkL, List.mem_cons, List.not_mem_nil, or_false] at hp
  rcases hp with rfl | rfl | rfl | rfl
  ·exact q5 (bk, C.o) (.head _)
  ·exact fun e => q5 (C.rw, listOf C.rv.toArray C.rn) (.tail _ (.head _)) (e.trans h1)
  ·exact fun e => q5 (C.er, listOf C.ev.toArray C.en) (.tail _ (.tail _ (.head _))) (e.trans h2)
  ·exact fun e => q5 (C.lg, listOf C.lv.toArray C.ln) (.tail _ (.tail _ (.tail _ (.head _)))) (e.trans h3)
 ·exact hn p hp q (hU q hq)
namespace law_own_run0_h
noncomputable abbrev T9 : Type := Program × World × (ExcName → Option Value) × (Str → Option Value) × (Str → Option Value) × Led × Led × Nat × Nat × Nat × Nat × Nat × Nat × Nat × BkC × Bk × (Str → List Act) × Obj × List (Str × Value) × List Value × Tok × Tok × Tok × Tok × Nat × Row × Cx
noncomputable def S9 (prog : Program) (w : World) (mean : ExcName → Option Value) (mg : Str → Option Value) (mb : Str → Option Value) (mt : Led) (r : Led) (bk : Nat) (rd : Nat) (z : Nat) (n : Nat) (j : Nat) (al : Nat) (na : Nat) (C : BkC) (B : Bk) (acts : Str → List Act) (od : Obj) (kvs : List (Str × Value)) (as : List Value) (t1 : Tok) (t2 : Tok) (t3 : Tok) (t4 : Tok) (nz : Nat) (t : Row) (x9 : Cx) : Prop :=
 ∀ (hj : j < B.rows.length) (ht0 : B.rows[j]'hj = t) (S : BkS bk C.rw C.er C.lg (mt ++ r)) (R : BkRep prog w r C B) (wf : BkB B (n + 3)) (hz : (z, tupO [.int t.1 t1, .int t.2.1 t2, .int t.2.2.1 t3, .str t.2.2.2 t4] nz) ∈ r) (ht : t ∈ B.rows) (hnm : t.2.2.2 ∈ sNames) (ok9 : ActsOk (wtN t.2.2.2) (acts t.2.2.2)) (hod : (rd, od) ∈ r) (hdd : od.IsDictOf (strKind prog w) kvs) (hval : valueAt kvs t.2.2.2 = some (.ref al)) (hal : (al, listOf as.toArray na) ∈ r) (DA : DatAll r as ((acts t.2.2.2).map tD)), Does.at prog w mean mg mb 609 [.ref bk, .ref rd, .ref z] 6 200 (bkL bk C (mt ++ r))
   (fun v l => v = .none ∧ ∃ add C', BkRep prog w (add ++ r) C' (bkRun B (acts t.2.2.2) t) ∧ C'.rw = C.rw ∧ C'.er = C.er ∧ C'.lg = C.lg ∧ New (bkL bk C (mt ++ r)) add ∧ l = bkL bk C' (mt ++ (add ++ r))) x9.1 x9.2.1 x9.2.2.1 x9.2.2.2.1 x9.2.2.2.2.1 x9.2.2.2.2.2.1 x9.2.2.2.2.2.2.1 x9.2.2.2.2.2.2.2.1 x9.2.2.2.2.2.2.2.2.1 x9.2.2.2.2.2.2.2.2.2.1 x9.2.2.2.2.2.2.2.2.2.2.1 x9.2.2.2.2.2.2.2.2.2.2.2.1 x9.2.2.2.2.2.2.2.2.2.2.2.2.1 x9.2.2.2.2.2.2.2.2.2.2.2.2.2.1 x9.2.2.2.2.2.2.2.2.2.2.2.2.2.2.1 x9.2.2.2.2.2.2.2.2.2.2.2.2.2.2.2.1 x9.2.2.2.2.2.2.2.2.2.2.2.2.2.2.2.2
noncomputable def P9 : T9 → Prop := cur fun prog => cur fun w => cur fun mean => cur fun mg => cur fun mb => cur fun mt => cur fun r => cur fun bk => cur fun rd => cur fun z => cur fun n => cur fun j => cur fun al => cur fun na => cur fun C => cur fun B => cur fun acts => cur fun od => cur fun kvs => cur fun as => cur fun t1 => cur fun t2 => cur fun t3 => cur fun t4 => cur fun nz => cur fun t => fun x9 => S9 prog w mean mg mb mt r bk rd z n j al na C B acts od kvs as t1 t2 t3 t4 nz t x9
theorem ex9 : ∃ x, P9 x → ∀ y, P9 y := drinker P9 (PySem.Challenge.rw_np0139_01.prog, w0, default, default, default, default, default, default, default, default, default, default, default, default, (⟨0, 0, 0, default, 0, 0, [], [], [], 0, 0, 0⟩ : BkC), (⟨0, 0, [], [], []⟩ : Bk), default, default, default, default, default, default, default, default, default, default, cx0)
@[irreducible] def c9 : T9 := Classical.choose ex9
@[irreducible] def prog := c9.1
@[irreducible] def w := c9.2.1
@[irreducible] def mean := c9.2.2.1
@[irreducible] def mg := c9.2.2.2.1
@[irreducible] def mb := c9.2.2.2.2.1
@[irreducible] def mt := c9.2.2.2.2.2.1
@[irreducible] def r := c9.2.2.2.2.2.2.1
@[irreducible] def bk := c9.2.2.2.2.2.2.2.1
@[irreducible] def rd := c9.2.2.2.2.2.2.2.2.1
@[irreducible] def z := c9.2.2.2.2.2.2.2.2.2.1
@[irreducible] def n := c9.2.2.2.2.2.2.2.2.2.2.1
@[irreducible] def j := c9.2.2.2.2.2.2.2.2.2.2.2.1
@[irreducible] def al := c9.2.2.2.2.2.2.2.2.2.2.2.2.1
@[irreducible] def na := c9.2.2.2.2.2.2.2.2.2.2.2.2.2.1
@[irreducible] def C := c9.2.2.2.2.2.2.2.2.2.2.2.2.2.2.1
@[irreducible] def B := c9.2.2.2.2.2.2.2.2.2.2.2.2.2.2.2.1
@[irreducible] def acts := c9.2.2.2.2.2.2.2.2.2.2.2.2.2.2.2.2.1
@[irreducible] def od := c9.2.2.2.2.2.2.2.2.2.2.2.2.2.2.2.2.2.1
@[irreducible] def kvs := c9.2.2.2.2.2.2.2.2.2.2.2.2.2.2.2.2.2.2.1
@[irreducible] def as := c9.2.2.2.2.2.2.2.2.2.2.2.2.2.2.2.2.2.2.2.1
@[irreducible] def t1 := c9.2.2.2.2.2.2.2.2.2.2.2.2.2.2.2.2.2.2.2.2.1
@[irreducible] def t2 := c9.2.2.2.2.2.2.2.2.2.2.2.2.2.2.2.2.2.2.2.2.2.1
@[irreducible] def t3 := c9.2.2.2.2.2.2.2.2.2.2.2.2.2.2.2.2.2.2.2.2.2.2.1
@[irreducible] def t4 := c9.2.2.2.2.2.2.2.2.2.2.2.2.2.2.2.2.2.2.2.2.2.2.2.1
@[irreducible] def nz := c9.2.2.2.2.2.2.2.2.2.2.2.2.2.2.2.2.2.2.2.2.2.2.2.2.1
@[irreducible] def t := c9.2.2.2.2.2.2.2.2.2.2.2.2.2.2.2.2.2.2.2.2.2.2.2.2.2.1
@[irreducible] def x9 := c9.2.2.2.2.2.2.2.2.2.2.2.2.2.2.2.2.2.2.2.2.2.2.2.2.2.2
abbrev h₀ := x9.2.2.2.2.2.2.2.2.2.2.2.1
theorem core9 : S9 prog w mean mg mb mt r bk rd z n j al na C B acts od kvs as t1 t2 t3 t4 nz t x9 := by
 refine wr_z (by
 intro hj ht0 S R wf hz ht hnm ok9 hod hdd hval hal DA B9 F X T N hk hdp hu hret
 f_tup
 first | (refine arr ?_ (id R); km_mul D0; km_mul D; km_mul D2; intro D3) | (obtain ⟨D0, D, D2, D3⟩ := id R)
 f_tup
 first | (refine arr ?_ (id wf); km_mul nd; km_mul lo; km_mul c0; km_mul c1; km_mul few; km_mul log; km_mul err; intro ok) | (obtain ⟨nd, lo, c0, c1, few, log, err, ok⟩ := id wf)
 have hlr : C.rv.length = B.rows.length := by rw [D.length, List.length_map]
 have hll : C.lv.length = B.log.length := D3.length
 have hle : C.ev.length = B.errs.length := by rw [D2.length, List.length_map]
 f_tup
 (refine arr ?_ (S.ne); k_extra "st"; km_mul w1; km_mul w2; intro w3; k_extra "st"; km_mul w4; km_mul w5; intro w6; k_extra "st"; km_mul w7; km_mul w8; intro w9; km_mul w10; km_mul w11; intro w12)
 f_tup
 (refine arr ?_ (S.to); km_mul o1; km_mul o2; km_mul o3; intro o4)
 have o11 : ∀ p ∈ mt, p.1 ≠ bk := fun p hp => o1 p (List.mem_append_left _ hp)
 have o12 : ∀ p ∈ r, p.1 ≠ bk := fun p hp => o1 p (List.mem_append_right _ hp)
 have o21 : ∀ p ∈ mt, p.1 ≠ C.rw := fun p hp => o2 p (List.mem_append_left _ hp)
 have o22 : ∀ p ∈ r, p.1 ≠ C.rw := fun p hp => o2 p (List.mem_append_right _ hp)
 have o31 : ∀ p ∈ mt, p.1 ≠ C.er := fun p hp => o3 p (List.mem_append_left _ hp)
 have o32 : ∀ p ∈ r, p.1 ≠ C.er := fun p hp => o3 p (List.mem_append_right _ hp)
 have o41 : ∀ p ∈ mt, p.1 ≠ C.lg := fun p hp => o4 p (List.mem_append_left _ hp)
 have o42 : ∀ p ∈ r, p.1 ≠ C.lg := fun p hp => o4 p (List.mem_append_right _ hp)
 have hsub : ∀ p ∈ r, p ∈ mt ++ r := fun p hp => List.mem_append_right _ hp
 have hz' := hsub _ hz
 have hod' := hsub _ hod
 have hal' := hsub _ hal
 simp only [bkL] at N hret ⊢
 refine wpAny_call ?_
 k_dflt ktr_enter
 have halt : HaltC := trivial
 f_tup
 k_steps
 refine Stop.mk ?_
 f_tup
 rename News _ _ _ _ => N9
 rename Fr _ _ _ _ => F9
 k_dflt (refine' my_removeD (j := j) F9 N9 D ?rms (rwD_in hz) ?rmx (rows_ok ok) ?rmj ?rmd ?rmo ?rmU ?rmz ?rmu ?_)
 case rms => kqd_sub
 case rmx => kqd_sub
 case rmj => simpa using hj
 case rmd => simp [ht0]
 case rmo => rw [← ht0]; exact rows_first nd hj
 case rmU => k_upd
 case rmz => w_how
 case rmu => ke_room
 intro h7 F6 N6
 clear F9 N9
 have DE := datAll_erase j D
 rw [erase_map] at DE
 have hel : (C.rv.eraseIdx j).length = (B.rows.eraseIdx j).length := by rw [DE.length, List.length_map]
 have hef : (B.rows.eraseIdx j).length ≤ 59 := by rw [List.length_eraseIdx]; split <;> w_how
 f_tup
 k_steps
 refine Stop.mk ?_
 f_tup
 rename News _ _ _ _ => N9
 rename Fr _ _ _ _ => F9
 refine LCg.CompSrc.ledger rfl F9 N9 (by k_mem) (by rw [List.size_toArray, sizeLine_eq]; w_how) ?_
 intro g
 refine my_comp (fun i ys nw => nw = _ ∧ IntsAre ys (((B.rows.eraseIdx j).take i).map (·.2.1))) ⟨rfl, .nil⟩ ?_ ?_
 ·intro i' ys nw v I oI Cx oC Dl m₂ hh tkk E' hi'
  (k_extra "st"; k_extra "sr"; intro hys)
  intro hPv hC hx' F6 N6 off6 ne6
  f_tup
  have hv2 : (C.rv.eraseIdx j)[i']? = some v := by simpa using hPv
  f_tup
  (refine arr ?_ (dat_row DE hv2); km_mul t9; km_mul hi2; intro hd)
  clear hv2
  f_tup
  (refine arr ?_ (rwD_inv hd); km_mul zz; km_mul cz; km_mul u1; km_mul u2; km_mul u3; km_mul u4; k_extra "st"; k_extra "sr"; intro hzz)
  have hz' := hsub _ hzz
  clear N9 F9
  f_tup
  k_steps
  refine Stop.mk ?_
  f_tup
  rename News _ _ _ _ => N7
  refine LCg.CompEnd.intro (by assumption) N7 _ (fun p hp => hp) off6 (Or.inr ⟨_, by k_mem, rfl, _, rfl⟩) ⟨rfl, ?_⟩
  rw [List.take_add_one, hi2, Option.toList_some, List.map_append]
  exact ints_snoc hys
 ·intro ys1 nw
  (k_extra "st"; k_extra "sr"; intro hys1)
  f_tup
  rw [show (C.rv.eraseIdx j).toArray.size = (B.rows.eraseIdx j).length by rw [List.size_toArray, hel], List.take_length] at hys1
  f_tup
  k_steps
  refine Stop.mk ?_
  f_tup
  rename News _ _ _ _ => N9
  rename Fr _ _ _ _ => F9
  k_dflt (refine' LSm.sum_ints F9 N9 rfl (PySem.IsL.isList (items := ys1.toArray) (n := ys1.length) (N9 _ (.head _)).1) hys1 ?_)
  intro h8 tk8 t8 F8 N8
  clear F9 N9
  f_tup
  k_steps
  refine Stop.mk ?_
  f_tup
  rename News _ _ _ _ => N9
  rename Fr _ _ _ _ => F9
  try dsimp only at N9
  rw [List.push_toArray] at N9
  f_tup
  (refine arr ?_ (fr_names F9); km_mul g9; km_mul L9; k_extra "st"; k_extra "sr"; k_extra "sr")
  f_tup
  (refine arr ?_ (led1 N9); km_mul D7; km_mul o7; k_extra "st"; k_extra "sr"; intro ho7)
  rw [← ho7] at N9
  have hO : New (bkL bk C (mt ++ r)) [(D7, o7)] := new_cons (by dsimp only [bkL]; k_all) new_nil
  have e1 : B.rows.eraseIdx j = B.rows.filter fun u => decide (some u.1 ≠ some t.1) := by rw [← ht0]; exact (rows_erase nd hj).symm
  have R1 : BkRep prog w ((D7, o7) :: r) { C with rv := C.rv.eraseIdx j, rn := C.rn + 1, lv := C.lv ++ [.ref D7], ln := C.ln + 1 } (bkLess B t) := by
   refine ⟨D0, ?_, D2, ?_⟩
   ·show DatAll _ _ ((B.rows.filter fun u => decide (some u.1 ≠ some t.1)).map rwD)
    rw [← e1]
    exact DE.mono fun p hp => .tail _ hp
   ·refine (D3.mono fun p hp => .tail _ hp).append (.one ?_)
    rw [ho7, ← e1, hel]
    exact .tuple (.head _) (.cons (.str _ _) (.cons (.int _ _) (.cons (.int _ _) (.cons (.int _ _) .nil))))
  (try (with_reducible refine unw (by assumption) ?_))
  refine loopU tD (fun c : BkC × Bk => bkL bk c.1 []) (mt ++ (D7, o7) :: r) (fun pre tl c => (∀ post, acts t.2.2.2 = pre ++ post → bkRun B (acts t.2.2.2) t = bkActs c.2 post) ∧ BkB c.2 (n + 2 - pre.length) ∧ BkRep prog w (tl ++ (D7, o7) :: r) c.1 c.2 ∧ c.1.rw = C.rw ∧ c.1.er = C.er ∧ c.1.lg = C.lg ∧ New (bkL bk C (mt ++ (D7, o7) :: r)) tl)
   (c₀ := ({ C with rv := C.rv.eraseIdx j, rn := C.rn + 1, lv := C.lv ++ [.ref D7], ln := C.ln + 1 }, bkLess B t)) (nn := na) ?lphl DA rfl F9 ?lpN ?lphp ?lpturn ?lpdone
  case lphl =>
   rcases List.mem_append.mp hal' with h | h
   ·exact List.mem_append_left _ h
   ·exact List.mem_append_right _ (.tail _ h)
  case lpN => exact fun p hp => N9 p (by revert p hp; dsimp only [bkL, List.cons_append, List.nil_append]; kqd_sub)
  case lphp =>
   refine ⟨fun post e => ?_, less_B _ wf, R1, rfl, rfl, rfl, new_nil⟩
   unfold bkRun
   rw [e]
   rfl
  case lpdone =>
   (km_mul C9; intro B8)
   intro tl u h3 tk3
   (km_mul hrun; km_mul hB; km_mul hR; km_mul e2; km_mul e3; km_mul e4; intro hN)
   intro F3 N3
   f_tup
   clear F9 N9
   dsimp only [bkL, List.cons_append, List.nil_append] at N3
   f_tup
   k_steps
   rename News h₀ _ _ _ => N7
   refine hret _ _ _ _ (by assumption) (fun p hp => N7 p ?_) ⟨rfl, tl ++ [(D7, o7)], C9, ?_, e2, e3, e4, new_app (new_sub hN (by dsimp only [bkL, List.cons_append, List.nil_append]; kqd_sub)) hO, rfl⟩
   ·revert p hp
    try dsimp only [bkL, List.cons_append, List.nil_append]
    kqd_sub
   ·rw [hrun [] (by first | k_mem | simp)]
    exact hR.mono (by first | kqd_sub | (intro p hp; simpa using hp))
  case lpturn =>
   intro pre
   (km_mul k1; km_mul w1; intro x1)
   intro post v
   (km_mul C9; intro B8)
   intro tl h9 tk9 own hds hv
   (km_mul hrun; km_mul hB; km_mul hR; km_mul e2; km_mul e3; km_mul e4; intro hN)
   intro hown F8 N8
   f_tup
   clear F9 N9
   f_tup
   (refine arr ?_ (tD_inv hv); km_mul z7; km_mul cz; km_mul u1; km_mul u2; km_mul u3; k_extra "st"; k_extra "sr"; intro hzz)
   dsimp only at hzz
   have hz7 : (z7, tupO [.int k1 u1, .int w1 u2, .str x1 u3] cz) ∈ (own ++ mt) ++ (tl ++ (D7, o7) :: r) := List.mem_append_right _ (List.mem_append_right _ (.tail _ hzz))
   have hmm : ((k1, w1, x1) : Act) ∈ acts t.2.2.2 := by rw [hds]; simp
   have hcode := ok9.code _ hmm
   have N7 : News g9 L9 h9 (bkL bk C9 ((own ++ mt) ++ (tl ++ (D7, o7) :: r))) := fun p hp => N8 p (by revert p hp; dsimp only [bkL, List.cons_append, List.nil_append]; kqd_sub)
   clear N8
   f_tup
   first | (refine arr ?_ (id hR); km_mul E0; km_mul E1; km_mul E2; intro E3) | (obtain ⟨E0, E1, E2, E3⟩ := id hR)
   have hle9 : C9.ev.length = B8.errs.length := by rw [E2.length, List.length_map]
   have herr9 := hB.err
   have a1 : Apart bk C9.er := by rw [e3]; exact w7
   have a2 : Apart C9.rw C9.er := by rw [e2, e3]; exact w8
   have a3 : Apart C9.lg C9.er := by rw [e3, e4]; exact w9
   have b1 : ∀ p ∈ own, p.1 ≠ C9.er := fun p hp => hown (C9.er, listOf C9.ev.toArray C9.en) (by first | k_mem | simp) p hp
   have b2 : ∀ p ∈ mt, p.1 ≠ C9.er := by rw [e3]; exact o31
   have b3 : ∀ p ∈ r, p.1 ≠ C9.er := by rw [e3]; exact o32
   have b4 : ∀ p ∈ tl, p.1 ≠ C9.er := fun p hp => by rw [e3]; exact Ne.symm (hN p hp (C.er, listOf C.ev.toArray C.en) (by first | k_mem | simp))
   have b5 : D7 ≠ C9.er := by rw [e3]; exact Ne.symm (hO _ (.head _) (C.er, listOf C.ev.toArray C.en) (by first | k_mem | simp))
   dsimp only [bkL] at N7
   dsimp only at herr9
   dsimp only at hcode
   f_tup
   k_steps
   ·rename k1 = 3 => hk3
    subst hk3
    dsimp only [UPost]
    f_tup
    k_steps
    rename News h₀ _ _ _ => N6
    rename Fr h₀ _ _ _ => F6
    try dsimp only at N6
    rw [List.push_toArray] at N6
    f_tup
    (refine arr ?_ (er_push N6); km_mul tt8; k_extra "sr")
    refine hret _ _ _ _ F6 (fun p hp => N6 p ?_) ⟨rfl, tl ++ [(D7, o7)], { C9 with ev := C9.ev ++ [.str (toldS w1 x1) tt8], en := C9.en + 1 }, ?_, e2, e3, e4, new_app (new_sub hN (by dsimp only [bkL, List.cons_append, List.nil_append]; kqd_sub)) hO, rfl⟩
    ·revert p hp
     try dsimp only [bkL, List.cons_append, List.nil_append]
     kqd_sub
    ·rw [hrun _ hds]
     unfold bkActs
     rw [if_pos rfl]
     refine ⟨E0, E1.mono (by first | kqd_sub | (intro p hp; simpa using hp)), ?_, E3.mono (by first | kqd_sub | (intro p hp; simpa using hp))⟩
     dsimp only
     rw [List.map_append]
     exact E2.append (.one (.str _ _))
   ·rename k1 ≠ 3 => hk3
    refine Stop.mk ?_
    f_tup
    rename News _ _ _ _ => N9
    rename Fr _ _ _ _ => F9
    have hpl : pre.length ≤ 1 := by
     have h1 := ok9.len
     rw [hds, List.length_append, List.length_cons] at h1
     w_how
    have hkind := (ok9.kind _ hmm).1
    have S9 : BkS bk C9.rw C9.er C9.lg ((own ++ mt) ++ (tl ++ (D7, o7) :: r)) := by
     rw [List.append_assoc]
     exact BkS.front ((BkS.more (add := tl) (BkS.more (add := [(D7, o7)]) S hO) hN).as e2 e3 e4) fun q hq p hp => hown q (List.mem_append_left _ hq) p hp
    have hB9 : BkB B8 ((n + 1 - pre.length) + 1) := by
     rw [show n + 1 - pre.length + 1 = n + 2 - pre.length by w_how]
     exact hB
    have hx9 : k1 < 2 → PyData.strOk x1 = true := fun h => by
     dsimp only at hkind
     have := (ok9.adds _ hmm (decide_eq_true (by dsimp only; w_how))).1
     exact names_ok _ this
    have N9' : News g9 L9 h9 (bkL bk C9 ((own ++ mt) ++ (tl ++ (D7, o7) :: r))) := fun p hp => N9 p (by revert p hp; dsimp only [bkL, List.cons_append, List.nil_append]; kqd_sub)
    refine Does.use (by k_asm) F9 (by k_asm) (by k_asm) N9' rfl (law_own_does (prog := prog) (mt := own ++ mt) (r := tl ++ (D7, o7) :: r) S9 hR hB9 hz7) (by ktr_room) (by ktr_units) ?_
    clear N9 N9' F9
    intro v9 h8 tk8 news9 F9 N9
    (k_extra "st"; k_extra "sr"; km_mul add; km_mul C8; km_mul hR8; km_mul f2; km_mul f3; km_mul f4; km_mul hnew; k_extra "sr")
    f_tup
    f_tup
    k_steps
    rename News _ _ _ _ => N9
    rename Fr _ _ _ _ => F9
    dsimp only at e2 e3 e4 hR8
    refine UPost.next (C8, bkOwn B8 k1 w1 x1) add F9 N9 (fun y hy => by simp only [if_neg hy]) ?sub ?hn ⟨fun post' e => ?_, ?_, ?_, f2.trans e2, f3.trans e3, f4.trans e4, new_app (new_sub (hnew.moved (C := C) e2 e3 e4) (by dsimp only [bkL, List.cons_append, List.nil_append]; kqd_sub)) hN⟩
    case sub =>
     dsimp only [bkL, List.cons_append, List.nil_append]
     kqd_sub
    case hn => exact own_off hown f2 f3 f4 hnew (by dsimp only [bkL]; kqd_sub)
    ·have e9 := hrun ((k1, w1, x1) :: post') (by rw [e, List.append_assoc]; rfl)
     rw [e9]
     show bkActs B8 ((k1, w1, x1) :: post') = _
     rw [bkActs, if_neg hk3]
    ·have h9 := own_B (k := k1) (w := w1) (x := x1) hB9 hx9
     rw [List.length_append, List.length_singleton, show n + 2 - (pre.length + 1) = n + 1 - pre.length by w_how]
     exact h9
    ·rw [List.append_assoc]; exact hR8
 ) ?_
 intro q f
 simpa using f (default : (by exact Fin 1))
theorem ok9 : ∀ y, P9 y := Classical.choose_spec ex9 (by with_unfolding_all exact core9)
end law_own_run0_h
theorem law_own_run0_does {prog : Program} {w : World} {mean : ExcName → Option Value} {mg mb : Str → Option Value} {mt r : Led} {bk rd z n j al na : Nat} {C : BkC} {B : Bk} {acts : Str → List Act} {od : Obj} {kvs : List (Str × Value)} {as : List Value} {t1 t2 t3 t4 : Tok} {nz : Nat} {t : Row}
  (hj : j < B.rows.length) (ht0 : B.rows[j]'hj = t) (S : BkS bk C.rw C.er C.lg (mt ++ r)) (R : BkRep prog w r C B) (wf : BkB B (n + 3)) (hz : (z, tupO [.int t.1 t1, .int t.2.1 t2, .int t.2.2.1 t3, .str t.2.2.2 t4] nz) ∈ r) (ht : t ∈ B.rows) (hnm : t.2.2.2 ∈ sNames) (ok9 : ActsOk (wtN t.2.2.2) (acts t.2.2.2)) (hod : (rd, od) ∈ r) (hdd : od.IsDictOf (strKind prog w) kvs) (hval : valueAt kvs t.2.2.2 = some (.ref al)) (hal : (al, listOf as.toArray na) ∈ r) (DA : DatAll r as ((acts t.2.2.2).map tD)) :
  Does prog w mean mg mb 609 [.ref bk, .ref rd, .ref z] 6 200 (bkL bk C (mt ++ r))
   (fun v l => v = .none ∧ ∃ add C', BkRep prog w (add ++ r) C' (bkRun B (acts t.2.2.2) t) ∧ C'.rw = C.rw ∧ C'.er = C.er ∧ C'.lg = C.lg ∧ New (bkL bk C (mt ++ r)) add ∧ l = bkL bk C' (mt ++ (add ++ r))) := by
 intros dp un gd cn cs a' ccd cl outer A₀ base h₀ L m s Q E
 exact law_own_run0_h.ok9 (prog, w, mean, mg, mb, mt, r, bk, rd, z, n, j, al, na, C, B, acts, od, kvs, as, t1, t2, t3, t4, nz, t, (dp, un, gd, cn, cs, a', ccd, cl, outer, A₀, base, h₀, L, m, s, Q, E)) hj ht0 S R wf hz ht hnm ok9 hod hdd hval hal DA
theorem law_own_run_does {prog : Program} {w : World} {mean : ExcName → Option Value} {mg mb : Str → Option Value} {mt r : Led} {bk rd z n : Nat} {C : BkC} {B : Bk} {acts : Str → List Act} {t : Row} {t1 t2 t3 t4 : Tok} {nz : Nat}
  (S : BkS bk C.rw C.er C.lg (mt ++ r)) (R : BkRep prog w r C B) (wf : BkB B (n + 3)) (hz : (z, tupO [.int t.1 t1, .int t.2.1 t2, .int t.2.2.1 t3, .str t.2.2.2 t4] nz) ∈ r) (ht : t ∈ B.rows) (hnm : t.2.2.2 ∈ sNames) (ok9 : ActsOk (wtN t.2.2.2) (acts t.2.2.2)) (W : Rws prog w rd acts r) :
  Does prog w mean mg mb 609 [.ref bk, .ref rd, .ref z] 6 200 (bkL bk C (mt ++ r))
   (fun v l => v = .none ∧ ∃ add C', BkRep prog w (add ++ r) C' (bkRun B (acts t.2.2.2) t) ∧ C'.rw = C.rw ∧ C'.er = C.er ∧ C'.lg = C.lg ∧ New (bkL bk C (mt ++ r)) add ∧ l = bkL bk C' (mt ++ (add ++ r))) := by
 obtain ⟨od, kvs, hod, hdd, hW⟩ := W
 obtain ⟨al, na, as, hval, hal, DA⟩ := hW _ hnm
 obtain ⟨j, hj, ej⟩ := List.getElem_of_mem ht
 exact law_own_run0_does hj ej S R wf hz ht hnm ok9 hod hdd hval hal DA

end
theorem In_F8.in_F8 : True := trivial
noncomputable section
open In_F8
theorem datAll_pick {α : Type} [Inhabited α] (enc : α → Dat) {r : Led} {vs : List Value} {ds : List α} (D : DatAll r vs (ds.map enc)) : ∀ (p : List Nat), (∀ i ∈ p, i < ds.length) → DatAll r (p.map fun i => vs.getD i Value.none) ((p.map fun i => ds.getD i default).map enc)
 |[], _ => .nil
 |i :: p, h => by
  have hi := h i (.head _)
  obtain ⟨v, hv, hd⟩ := D.get (k := i) (by rw [List.length_map]; exact hi)
  rw [List.getElem_map] at hd
  simp only [List.map_cons]
  refine .cons ?_ (datAll_pick enc D p fun j hj => h j (.tail _ hj))
  rw [List.getD_eq_getElem?_getD, hv, Option.getD_some, List.getD_eq_getElem?_getD, List.getElem?_eq_getElem hi, Option.getD_some]
  exact hd
theorem my_sortedD {prog : Program} {w : World} {A : Around} {E : Value → Shared → Prop} {s : Shared} {h₀ : Heap} {L l : Addr} {m : Str → Option Value} {news r : Led} {vs : List Value} {n : Nat} {Q : Value → Shared → Prop} {α : Type} [Inhabited α] (enc : α → Dat) (key : α → Int × Int) {ds : List α}
  (henc : ∀ t, ∃ x xs, enc t = .tuple (.int (key t).1 :: .int (key t).2 :: x :: xs)) (F : Fr h₀ L s.heap m) (N : News h₀ L s.heap news) (hm : (l, listOf vs.toArray n) ∈ news) (D : DatAll r vs (ds.map enc)) (sub : ∀ p ∈ r, p ∈ news) (h64 : ds.length < 64) (hnd : (ds.map fun t => (key t).2).Nodup)
  (h : ∀ D c h' (ds' : List α) (vs' : List Value), ds'.Perm ds → (ds'.Pairwise fun a b => (key a).1 < (key b).1 ∨ ((key a).1 = (key b).1 ∧ (key a).2 < (key b).2)) → DatAll r vs' (ds'.map enc) → Fr h₀ L h' m → News h₀ L h' ((D, listOf vs'.toArray c) :: news) → (∀ q ∈ news, q.1 < D) → Q (.ref D) { s with heap := h' }) :
  wpAny (model prog w) A (call (.builtin "sorted") [.ref l]) Q E s := by
 have hlen : vs.length = ds.length := by rw [D.length, List.length_map]
 refine sorted_tup (ks := ds.map key) F N (News.isList N hm) (by w_how) (fun i hi => ?_) (by rw [List.length_map, hlen]) (by rw [List.map_map]; exact hnd) fun D' c h' p hp hs F' N' lt => ?_
 ·have hi' : i < ds.length := by simpa using hi
  obtain ⟨v, hv, hd⟩ := D.get (k := i) (by rw [List.length_map]; exact hi')
  rw [List.getElem_map] at hd
  obtain ⟨x, xs, e⟩ := henc ds[i]
  rw [e] at hd
  rw [List.getElem_map]
  obtain ⟨z, vs, n, rfl, hz, hd⟩ := tup_inv hd
  obtain ⟨v1, vs, rfl, h1, hd⟩ := cons_inv hd
  obtain ⟨v2, vs, rfl, h2, hd⟩ := cons_inv hd
  obtain ⟨v3, vs, rfl, h3, hd⟩ := cons_inv hd
  obtain ⟨t1, rfl⟩ := int_inv h1
  obtain ⟨t2, rfl⟩ := int_inv h2
  exact ⟨_, _, _, _, t1, t2, _, hv, sub _ hz, rfl, rfl⟩
 ·rw [List.length_map] at hp
  have hlt : ∀ i ∈ p, i < ds.length := fun i hi => by simpa using hp.mem_iff.mp hi
  refine h D' c h' (p.map fun i => ds.getD i default) _ ?_ ?_ (datAll_pick enc D p hlt) F' N' lt
  ·refine (hp.map fun i => ds.getD i default).trans (.of_eq ?_)
   apply List.ext_getElem
   ·simp
   ·intros i h1 h2
    simp at h1
    simp [h1]
  ·rw [List.pairwise_map] at hs ⊢
   refine hs.imp_of_mem fun {i j} hi hj q => ?_
   have ei := hlt i hi
   have ej := hlt j hj
   simp only [lex2, List.getD_eq_getElem?_getD, List.getElem?_map, List.getElem?_eq_getElem ei, List.getElem?_eq_getElem ej, Option.map_some, Option.getD_some, decide_eq_true_eq] at q ⊢
   exact q
theorem my_head {prog : Program} {w : World} {A : Around} {E : Value → Shared → Prop} {s : Shared} {h₀ : Heap} {L l : Addr} {news : Led} {v : Value} {vs : List Value} {n : Nat} {u : Tok} {value slice : PySem.Expr} {Q : Value → Shared → Prop} (N : News h₀ L s.heap news) (hm : (l, listOf (v :: vs).toArray n) ∈ news) (h : Q v s)
  (hs : subscripted slice false (.ref l) (.int 0 u) = operate [.ref l, .int 0 u] (getItem (.ref l) (.int 0 u)) := by with_unfolding_all rfl) :
  wpAny (model prog w) A (subscriptTail value slice (.ref l) (.int 0 u)) Q E s := by
 have hl := News.isList N hm
 exact tail_any hl.typeIs slot_list_getitem.lookup (wpAny_getItem_list hl (by decide) (by decide) (by first | k_mem | simp) h) hs
noncomputable def tmD (t : Int × Int × Row) : Dat := .tuple [.int t.1, .int t.2.1, rwD t.2.2]
theorem tmD_inv {r : Led} {v : Value} {t : Int × Int × Row} (h : DatIn r v (tmD t)) : ∃ z n t1 t2 y, v = .ref z ∧ (z, tupO [.int t.1 t1, .int t.2.1 t2, y] n) ∈ r ∧ DatIn r y (rwD t.2.2) := by
 obtain ⟨z, n, x, y, w, hv, hm, h1, h2, h3⟩ := tup3_inv h
 obtain ⟨t1, rfl⟩ := int_inv h1
 obtain ⟨t2, rfl⟩ := int_inv h2
 exact ⟨z, n, t1, t2, w, hv, hm, h3⟩
theorem tmD_ok {t : Int × Int × Row} (h : PyData.strOk t.2.2.2.2.2 = true) : kqdOk 8 (tmD t) = true := by simp [tmD, rwD, kqdOk, h]
noncomputable def bkOn (B : Bk) (tm : List (Int × Int × Row)) (I : List Row) (wt : Bool) : Bk := match tm with | [] => B | t :: _ => if I = [] ∧ wt = true ∧ B.now < t.1 then { B with now := t.1 } else B
theorem bkStep_of {acts : Str → List Act} {wt : Bool} {B B1 B' : Bk} {ret : Bool} {tm : List (Int × Int × Row)} (h1 : tm.Perm ((B.rows.filter fun t => decide (t.2.1 = 0)).map fun t => (t.2.2.1, t.1, t))) (h2 : tm.Pairwise fun x y => x.1 < y.1 ∨ (x.1 = y.1 ∧ x.2.1 < y.2.1))
  (h3 : B1 = bkOn B tm (B.rows.filter fun t => decide (t.2.1 = 1)) wt) (h4 : (∃ ti n t tm', tm = (ti, n, t) :: tm' ∧ ti ≤ B1.now ∧ B' = bkRun B1 (acts t.2.2.2) t ∧ ret = true) ∨
    ((∀ ti n t tm', tm = (ti, n, t) :: tm' → B1.now < ti) ∧ B' = bkIdle acts B1 (B.rows.filter fun t => decide (t.2.1 = 1)) ∧ ret = !((B.rows.filter fun t => decide (t.2.1 = 1)).isEmpty))) : BkStepR acts wt B B' ret := by
 refine ⟨tm, h1, h2, B1, ?_, h4⟩
 cases tm with
 |nil => exact h3
 |cons t tm => exact h3
theorem dict_no {prog : Program} {w : World} {o : Obj} {C : BkC} {B : Bk} {t : Tok} (h : o.IsDictOf (strKind prog w) (bkV { C with tn := t } B)) : ∃ o', o' = o := have _ := h; ⟨_, rfl⟩
noncomputable def HaltS : Prop := True
noncomputable def HeadOf (_ : Addr) (_ : Value) : Prop := True
noncomputable def TupOf (_ : Addr) (_ : List Value) : Prop := True
theorem my_headM {prog : Program} {w : World} {A : Around} {E : Value → Shared → Prop} {s : Shared} {h₀ : Heap} {L l : Addr} {news : Led} {v : Value} {vs : List Value} {n : Nat} {u : Tok} {value slice : PySem.Expr} {Q : Value → Shared → Prop} (_ : HeadOf l v) (N : News h₀ L s.heap news) (hm : (l, listOf (v :: vs).toArray n) ∈ news) (h : Q v s)
  (hs : subscripted slice false (.ref l) (.int 0 u) = operate [.ref l, .int 0 u] (getItem (.ref l) (.int 0 u)) := by with_unfolding_all rfl) :
  wpAny (model prog w) A (subscriptTail value slice (.ref l) (.int 0 u)) Q E s := my_head N hm h hs
theorem my_tupM {prog : Program} {w : World} {A : Around} {E : Value → Shared → Prop} {s : Shared} {h₀ : Heap} {L l : Addr} {news : Led} {v : Value} {vs : List Value} {n j : Nat} {i : Int} {u : Tok} {value slice : PySem.Expr} {Q : Value → Shared → Prop} (_ : TupOf l vs) (N : News h₀ L s.heap news) (hm : (l, tupO vs n) ∈ news) (h0 : -(2 ^ 63) ≤ i) (hi : i < 2 ^ 63) (hj : seqIndex? i vs.length = some j) (hv : vs[j]? = some v) (h : Q v s)
  (hs : subscripted slice false (.ref l) (.int i u) = operate [.ref l, .int i u] (getItem (.ref l) (.int i u)) := by with_unfolding_all rfl) :
  wpAny (model prog w) A (subscriptTail value slice (.ref l) (.int i u)) Q E s := item_tupleT (News.isTup N hm) h0 hi hj hv h hs
theorem wrd_F8_1 : True := by
 k_with "my subscriptTail" => ((fail_if_success (fail_if_success (have h9 := in_F8))); (((have halt9 := (by assumption : HaltS)); k_here; (with_reducible show wpAny _ _ (subscriptTail _ _ (Value.ref _) (Value.int 0 _)) _ _ _); k_dflt (refine my_headM (by with_reducible assumption) (by k_asm) (by k_mem) ?_ (by with_unfolding_all rfl)))))
 k_with "my subscriptTail Name Constant ref int" => ((fail_if_success (fail_if_success (have h9 := in_F8))); (((have halt9 := (by assumption : HaltS)); k_here; (with_reducible show wpAny _ _ (subscriptTail _ _ (Value.ref _) (Value.int 0 _)) _ _ _); k_dflt (refine my_headM (by with_reducible assumption) (by k_asm) (by k_mem) ?_ (by with_unfolding_all rfl)))))
 k_with "my subscriptTail" => ((fail_if_success (fail_if_success (have h9 := in_F8))); (((have halt9 := (by assumption : HaltS)); k_here; (with_reducible show wpAny _ _ (subscriptTail _ _ (Value.ref _) (Value.int _ _)) _ _ _); k_dflt (refine my_tupM (by with_reducible assumption) (by k_asm) (by k_mem) (by decide) (by decide) (by rfl) (by rfl) ?_ (by with_unfolding_all rfl)))))
 k_with "my subscriptTail Name Constant ref int" => ((fail_if_success (fail_if_success (have h9 := in_F8))); (((have halt9 := (by assumption : HaltS)); k_here; (with_reducible show wpAny _ _ (subscriptTail _ _ (Value.ref _) (Value.int _ _)) _ _ _); k_dflt (refine my_tupM (by with_reducible assumption) (by k_asm) (by k_mem) (by decide) (by decide) (by rfl) (by rfl) ?_ (by with_unfolding_all rfl)))))
 trivial
theorem my_neNilB {prog : Program} {w : World} {A : Around} {E : Value → Shared → Prop} {s : Shared} {h₀ : Heap} {L a b : Addr} {news r : Led} {vs : List Value} {n k : Nat} {ds : List Dat} {Q : Value → Shared → Prop} (N : News h₀ L s.heap news) (ma : (a, listOf vs.toArray n) ∈ news) (mb : (b, listOf (List.toArray ([] : List Value)) k) ∈ news) (hu : A.units + 64 < cLine) (Da : DatAll r vs ds) (sa : ∀ p ∈ r, p ∈ news) (ok : ∀ d ∈ ds, kqdOk 8 d = true) (h : Q (.bool (!vs.isEmpty)) s) :
  wpAny (model prog w) A (compareOp .NotEq (.ref a) (.ref b)) Q E s := by
 cases vs with
 |nil => exact my_neNilF N ma mb rfl hu h
 |cons v vs => exact my_neNilT N ma mb (by first | k_mem | simp) hu Da sa ok h
theorem rwD_mem {rows : List Row} {t : Row} : rwD t ∈ rows.map rwD ↔ t ∈ rows := by
 constructor
 ·intros h
  obtain ⟨u, hu, e⟩ := List.mem_map.mp h
  obtain ⟨a, b, c, d⟩ := u
  obtain ⟨a', b', c', d'⟩ := t
  simp [rwD] at e
  obtain ⟨rfl, rfl, rfl, rfl⟩ := e
  exact hu
 ·exact List.mem_map_of_mem
theorem dec_t {p : Prop} {i : Decidable p} (h : p) : @decide p i = true := by
 cases i with
 |isTrue _ => rfl
 |isFalse n => exact absurd h n
theorem dec_f {p : Prop} {i : Decidable p} (h : ¬ p) : @decide p i = false := by
 cases i with
 |isTrue y => exact absurd y h
 |isFalse _ => rfl
theorem kqd_isInB {prog : Program} {w : World} {A : Around} {E : Value → Shared → Prop} {s : Shared} {h₀ : Heap} {L a : Addr} {news n₁ n₂ : Led} {oa : Obj} {xs : List Value} {ka : Nat} {ds : List Dat} {x : Value} {d : Dat} {Q : Value → Shared → Prop}
  (N : News h₀ L s.heap news) (ma : (a, oa) ∈ news) (ca : oa.cls = .type "list") (da : oa.data = .seq xs.toArray ka) (Da : DatAll n₁ xs ds) (sa : ∀ p ∈ n₁, p ∈ news)
  (Dx : DatIn n₂ x d) (sx : ∀ p ∈ n₂, p ∈ news) (ha : ∀ d ∈ ds, kqdOk 8 d = true) (hd : kqdOk 8 d = true) (hu : A.units + 64 < cLine) (ht : d ∈ ds → Q (.bool true) s) (hf : ¬ d ∈ ds → Q (.bool false) s) : wpAny (model prog w) A (compareOp .In x (.ref a)) Q E s :=
 kqd_isIn N ma ca da Da sa Dx sx ha hd hu (by
  by_cases q : d ∈ ds
  ·rw [dec_t q]; exact ht q
  ·rw [dec_f q]; exact hf q)
theorem neB {l : List Row} {i : Decidable (l.map rwD = [])} : (!@decide _ i) = !l.isEmpty := by
 cases l with
 |nil => rw [dec_t (p := List.map rwD [] = []) rfl]; rfl
 |cons a l => rw [dec_f (p := List.map rwD (a :: l) = []) (by first | k_mem | simp)]; rfl
noncomputable def JL (g : Heap) (L : Addr) (m : Str → Option Value) (s : Shared) (NL : Led) (P : Prop) (Q : Flow → Shared → Prop) (f : Flow) (s' : Shared) : Prop := match f with
 |.next => ∃ h' tk, s' = { s with heap := h', toks := tk } ∧ Fr g L h' m ∧ News g L h' NL ∧ P
 |f => Q f s'
section
variable {M : Model} {A : Around} {E : Value → Shared → Prop} {s s' : Shared} {env : Env} {g : Heap} {L : Addr} {m : Str → Option Value} {NL : Led} {P : Prop}
theorem JL.ret {Q : Flow → Shared → Prop} {v : Value} (h : Q (.ret v) s') : JL g L m s NL P Q (.ret v) s' := h
theorem JL.next {Q : Flow → Shared → Prop} {h' : Heap} {tk : Nat} (F : Fr g L h' m) (N : News g L h' NL) (p : P) : JL g L m s NL P Q .next { s with heap := h', toks := tk } := ⟨h', tk, rfl, F, N, p⟩
theorem cut1 {st1 st2 : Stmt} {rest : List Stmt} {Q : Flow → Shared → Prop} (NL : Led) (P : Prop) (_ : Fr g L s.heap m)
  (h1 : wpAny M A (exec st1 env) (SeqQ M A [st2] env (JL g L m s NL P Q) E) E s)
  (h2 : ∀ h' tk, Fr g L h' m → News g L h' NL → P → wpAny M A (execs rest env) Q E { s with heap := h', toks := tk }) :
  wpAny M A (exec st1 env) (SeqQ M A (st2 :: rest) env Q E) E s := by
 refine group1 (J := JL g L m s NL P Q) h1 fun f s' hJ => ?_
 cases f with
 |next =>
  obtain ⟨h', tk, rfl, F', N', hp⟩ := hJ
  exact h2 h' tk F' N' hp
 |_ => exact hJ
end
noncomputable def HaltI : Prop := (5 : Nat) = 5
theorem wrd_F8_2 : True := by
 k_with "my exec If" => ((fail_if_success (fail_if_success (have h9 := in_F8))); (((have halt9 := (by assumption : HaltI)); refine Stop.out ?_)))
 k_with "my call ref" => ((fail_if_success (fail_if_success (have h9 := in_F8))); (((have halt9 := (by assumption : HaltS)); (with_reducible show wpAny _ _ (call (Value.ref 609) _) _ _ _); refine Stop.out ?_)))
 k_with "my exec For" => ((fail_if_success (fail_if_success (have h9 := in_F8))); (((have halt9 := (by assumption : HaltS)); (with_reducible show wpAny _ _ (exec (Stmt.For _ _ _ [] _) _) _ _ _); (rename Fr _ _ _ _ => lF'); (with_unfolding_all refine For_invVF lF' (by exact rfl) (by exact rfl) ?_))))
 k_with "my eval ListComp" => ((fail_if_success (fail_if_success (have h9 := in_F8))); (((have halt9 := (by assumption : HaltS)); k_here; k_dflt (refine LCt.ListComp_T (F₀ := by k_asm) (by with_unfolding_all rfl) (by decide) (by rfl) (by decide) (by rfl) ?_))))
 k_with "my exec Assign cons ListComp" => ((fail_if_success (fail_if_success (have h9 := in_F8))); (((have halt9 := (by assumption : HaltS)); (with_reducible show wpAny _ _ (exec (Stmt.Assign [PySem.Expr.Name _ _] _ _) _) _ _ _); k_here; k_dflt (refine LCt.Assign_ListComp_T (F₀ := by k_asm) (by rfl) (by with_unfolding_all rfl) (by with_unfolding_all rfl) (by decide) (by rfl) (by decide) (by rfl) (by rfl) (by rfl) ?_))))
 k_with "my call builtin:sorted" => ((fail_if_success (fail_if_success (have h9 := in_F8))); (((have halt9 := (by assumption : HaltS)); refine Stop.out ?_)))
 k_with "my CompSrcT" => ((fail_if_success (fail_if_success (have h9 := in_F8))); (((have halt9 := (by assumption : HaltS)); refine Stop.out ?_)))
 k_with "my CompEnd" => ((fail_if_success (fail_if_success (have h9 := in_F8))); (((have halt9 := (by assumption : HaltS)); refine Stop.out ?_)))
 k_with "my pyIter ref" => ((fail_if_success (fail_if_success (have h9 := in_F8))); (((have halt9 := (by assumption : HaltS)); refine Stop.out ?_)))
 k_with "my compareOp In ref ref" => ((fail_if_success (fail_if_success (have h9 := in_F8))); (((have halt9 := (by assumption : HaltS)); refine Stop.out ?_)))
 trivial
namespace law_own_step_h
noncomputable abbrev T9 : Type := Program × World × (ExcName → Option Value) × (Str → Option Value) × (Str → Option Value) × Led × Led × Nat × Nat × Nat × BkC × Bk × (Str → List Act) × Bool × Cx
noncomputable def S9 (prog : Program) (w : World) (mean : ExcName → Option Value) (mg : Str → Option Value) (mb : Str → Option Value) (mt : Led) (r : Led) (bk : Nat) (rd : Nat) (j : Nat) (C : BkC) (B : Bk) (acts : Str → List Act) (wt : Bool) (x9 : Cx) : Prop :=
 ∀ (S : BkS bk C.rw C.er C.lg (mt ++ r)) (R : BkRep prog w r C B) (wf : WfKA j B) (hj : j ≤ 20) (ok9 : ∀ nm ∈ sNames, ActsOk (wtN nm) (acts nm)) (W : Rws prog w rd acts r), Does.at prog w mean mg mb 614 [.ref bk, .ref rd, .bool wt] 8 240 (bkL bk C (mt ++ r))
   (fun v l => ∃ ret B' add C', v = .bool ret ∧ BkStepR acts wt B B' ret ∧ BkRep prog w (add ++ r) C' B' ∧ C'.rw = C.rw ∧ C'.er = C.er ∧ C'.lg = C.lg ∧ New (bkL bk C (mt ++ r)) add ∧ l = bkL bk C' (mt ++ (add ++ r))) x9.1 x9.2.1 x9.2.2.1 x9.2.2.2.1 x9.2.2.2.2.1 x9.2.2.2.2.2.1 x9.2.2.2.2.2.2.1 x9.2.2.2.2.2.2.2.1 x9.2.2.2.2.2.2.2.2.1 x9.2.2.2.2.2.2.2.2.2.1 x9.2.2.2.2.2.2.2.2.2.2.1 x9.2.2.2.2.2.2.2.2.2.2.2.1 x9.2.2.2.2.2.2.2.2.2.2.2.2.1 x9.2.2.2.2.2.2.2.2.2.2.2.2.2.1 x9.2.2.2.2.2.2.2.2.2.2.2.2.2.2.1 x9.2.2.2.2.2.2.2.2.2.2.2.2.2.2.2.1 x9.2.2.2.2.2.2.2.2.2.2.2.2.2.2.2.2
noncomputable def P9 : T9 → Prop := cur fun prog => cur fun w => cur fun mean => cur fun mg => cur fun mb => cur fun mt => cur fun r => cur fun bk => cur fun rd => cur fun j => cur fun C => cur fun B => cur fun acts => cur fun wt => fun x9 => S9 prog w mean mg mb mt r bk rd j C B acts wt x9
theorem ex9 : ∃ x, P9 x → ∀ y, P9 y := drinker P9 (PySem.Challenge.rw_np0139_01.prog, w0, default, default, default, default, default, default, default, default, (⟨0, 0, 0, default, 0, 0, [], [], [], 0, 0, 0⟩ : BkC), (⟨0, 0, [], [], []⟩ : Bk), default, default, cx0)
@[irreducible] def c9 : T9 := Classical.choose ex9
@[irreducible] def prog := c9.1
@[irreducible] def w := c9.2.1
@[irreducible] def mean := c9.2.2.1
@[irreducible] def mg := c9.2.2.2.1
@[irreducible] def mb := c9.2.2.2.2.1
@[irreducible] def mt := c9.2.2.2.2.2.1
@[irreducible] def r := c9.2.2.2.2.2.2.1
@[irreducible] def bk := c9.2.2.2.2.2.2.2.1
@[irreducible] def rd := c9.2.2.2.2.2.2.2.2.1
@[irreducible] def j := c9.2.2.2.2.2.2.2.2.2.1
@[irreducible] def C := c9.2.2.2.2.2.2.2.2.2.2.1
@[irreducible] def B := c9.2.2.2.2.2.2.2.2.2.2.2.1
@[irreducible] def acts := c9.2.2.2.2.2.2.2.2.2.2.2.2.1
@[irreducible] def wt := c9.2.2.2.2.2.2.2.2.2.2.2.2.2.1
@[irreducible] def x9 := c9.2.2.2.2.2.2.2.2.2.2.2.2.2.2
theorem core9 : S9 prog w mean mg mb mt r bk rd j C B acts wt x9 := by
 refine wr_z (by
 intro S R wf hj ok9 W B9 F X T N hk hdp hu hret
 f_tup
 first | (refine arr ?_ (id R); km_mul D0; km_mul D; km_mul D2; intro D3) | (obtain ⟨D0, D, D2, D3⟩ := id R)
 have hB := wf.bkB (n := 20) (by w_how) (by w_how) (by w_how)
 f_tup
 first | (refine arr ?_ (id hB); km_mul nd; km_mul lo; km_mul c0; km_mul c1; km_mul few; km_mul log; km_mul err; intro ok) | (obtain ⟨nd, lo, c0, c1, few, log, err, ok⟩ := id hB)
 have hlr : C.rv.length = B.rows.length := by rw [D.length, List.length_map]
 have hll : C.lv.length = B.log.length := D3.length
 have hle : C.ev.length = B.errs.length := by rw [D2.length, List.length_map]
 f_tup
 (refine arr ?_ (S.ne); k_extra "st"; km_mul w1; km_mul w2; intro w3; k_extra "st"; km_mul w4; km_mul w5; intro w6; k_extra "st"; km_mul w7; km_mul w8; intro w9; km_mul w10; km_mul w11; intro w12)
 f_tup
 (refine arr ?_ (S.to); km_mul o1; km_mul o2; km_mul o3; intro o4)
 have o11 : ∀ p ∈ mt, p.1 ≠ bk := fun p hp => o1 p (List.mem_append_left _ hp)
 have o12 : ∀ p ∈ r, p.1 ≠ bk := fun p hp => o1 p (List.mem_append_right _ hp)
 have hsub : ∀ p ∈ r, p ∈ mt ++ r := fun p hp => List.mem_append_right _ hp
 simp only [bkL] at N hret ⊢
 refine wpAny_call ?_
 k_dflt ktr_enter
 have halt : HaltS := trivial
 f_tup
 k_steps
 refine Stop.mk ?_
 f_tup
 rename News _ _ _ _ => N9
 rename Fr _ _ _ _ => F9
 refine LCt.CompSrcT.ledger rfl F9 N9 (by k_mem) (by rw [List.size_toArray, sizeLine_eq]; w_how) ?_
 intro g
 refine my_compT (fun i ys nw => ∃ add, nw = add ++ bkL bk C (mt ++ r) ∧ New (bkL bk C (mt ++ r)) add ∧ DatAll (add ++ r) ys ((((B.rows.take i).filter fun t => decide (t.2.1 = 0)).map fun t => (t.2.2.1, t.1, t)).map tmD)) ⟨[], rfl, new_nil, .nil⟩ ?_ ?_
 ·intro i' ys nw v I oI Cx oC Dl m₂ hh tkk E' hi'
  (km_mul add; k_extra "st"; k_extra "sr"; km_mul hnew; intro hys)
  intro hPv hC hx' F6 N6 off6 ne6
  f_tup
  have hv2 : C.rv[i']? = some v := by simpa using hPv
  f_tup
  (refine arr ?_ (dat_row D hv2); km_mul t9; km_mul hi2; intro hd)
  clear hv2
  have hd' := hd
  f_tup
  (refine arr ?_ (rwD_inv hd); km_mul zz; km_mul cz; km_mul u1; km_mul u2; km_mul u3; km_mul u4; k_extra "st"; k_extra "sr"; intro hzz)
  have hz' := hsub _ hzz
  clear N9 F9
  dsimp only [bkL] at N6
  have ef := filt_next (fun t : Row => decide (t.2.1 = 0)) hi2
  f_tup
  k_steps
  all_goals refine Stop.mk ?_
  all_goals rename News _ _ _ _ => N7
  ·f_tup
   (refine arr ?_ (led1 N7); km_mul D7; km_mul o7; km_mul e7; intro ho7)
   rw [← ho7] at N7
   subst e7
   refine LCg.CompEnd.intro (by assumption) N7 ((D7, o7) :: (add ++ bkL bk C (mt ++ r))) (by dsimp only [bkL]; kqd_sub) ⟨⟨by k_ne, by k_ne, by k_ne⟩, off6⟩ (Or.inr ⟨_, by dsimp only [bkL]; k_mem, rfl, _, rfl⟩) ⟨(D7, o7) :: add, rfl, new_cons (by dsimp only [bkL]; k_all) hnew, ?_⟩
   rw [ef, if_pos (by simpa using ‹_ = (0 : Int)›), List.map_append, List.map_append]
   refine (hys.mono fun p hp => .tail _ hp).append (.one ?_)
   rw [ho7]
   exact .tuple (.head _) (.cons (.int _ _) (.cons (.int _ _) (.cons (hd'.mono fun p hp => .tail _ (List.mem_append_right _ hp)) .nil)))
  ·refine LCg.CompEnd.intro (by assumption) N7 (add ++ bkL bk C (mt ++ r)) (by dsimp only [bkL]; kqd_sub) off6 (Or.inr ⟨_, by dsimp only [bkL]; k_mem, rfl, _, rfl⟩) ⟨add, rfl, hnew, ?_⟩
   rw [ef, if_neg (by simpa using ‹_ ≠ (0 : Int)›), List.append_nil]
   exact hys
 ·intro ys1 nw
  (km_mul add1; k_extra "st"; k_extra "sr"; km_mul hnew1; intro hys1)
  f_tup
  rw [show C.rv.toArray.size = B.rows.length by rw [List.size_toArray, hlr], List.take_length] at hys1
  have hfl0 := List.length_filter_le (fun t : Row => decide (t.2.1 = 0)) B.rows
  have hwl := wf.len
  clear N9 F9
  dsimp only [bkL]
  f_tup
  k_steps
  refine Stop.mk ?_
  f_tup
  rename News _ _ _ _ => N9
  rename Fr _ _ _ _ => F9
  k_dflt (refine' my_sortedD (r := add1 ++ r) tmD (fun t => (t.1, t.2.1)) (fun t => ⟨_, _, rfl⟩) F9 N9 ?sdm hys1 ?sds ?sdz ?sdn ?_)
  case sdm => k_mem
  case sds => kqd_sub
  case sdz => rw [List.length_map]; w_how
  case sdn =>
   rw [List.map_map]
   exact nd.sublist (List.filter_sublist.map _)
  intro D2 c2 h2 tm vs2 hp2 hs2 hD2 F2 N2 lt2
  k_lt lt2
  clear N9 F9
  dsimp only at hs2
  f_tup
  k_steps
  refine Stop.mk ?_
  f_tup
  rename News _ _ _ _ => N9
  rename Fr _ _ _ _ => F9
  refine LCt.CompSrcT.ledger rfl F9 N9 (by k_mem) (by rw [List.size_toArray, sizeLine_eq]; w_how) ?_
  intro g
  refine my_compT (fun i ys nw => nw = _ ∧ DatAll r ys (((B.rows.take i).filter fun t => decide (t.2.1 = 1)).map rwD)) ⟨rfl, .nil⟩ ?_ ?_
  ·intro i' ys nw v I oI Cx oC Dl m₂ hh tkk E' hi'
   (k_extra "st"; k_extra "sr"; intro hys)
   intro hPv hC hx' F6 N6 off6 ne6
   f_tup
   have hv2 : C.rv[i']? = some v := by simpa using hPv
   f_tup
   (refine arr ?_ (dat_row D hv2); km_mul t9; km_mul hi2; intro hd)
   clear hv2
   have hd' := hd
   f_tup
   (refine arr ?_ (rwD_inv hd); km_mul zz; km_mul cz; km_mul u1; km_mul u2; km_mul u3; km_mul u4; k_extra "st"; k_extra "sr"; intro hzz)
   have hz' := hsub _ hzz
   have ef := filt_next (fun t : Row => decide (t.2.1 = 1)) hi2
   clear N9 F9
   f_tup
   k_steps
   all_goals refine Stop.mk ?_
   all_goals rename News _ _ _ _ => N7
   ·refine LCg.CompEnd.intro (by assumption) N7 _ (fun p hp => hp) off6 (Or.inr ⟨_, by k_mem, rfl, _, rfl⟩) ⟨rfl, ?_⟩
    rw [ef, if_pos (by simpa using ‹_ = (1 : Int)›), List.map_append]
    exact hys.append (.one hd')
   ·refine LCg.CompEnd.intro (by assumption) N7 _ (fun p hp => hp) off6 (Or.inr ⟨_, by k_mem, rfl, _, rfl⟩) ⟨rfl, ?_⟩
    rw [ef, if_neg (by simpa using ‹_ ≠ (1 : Int)›), List.append_nil]
    exact hys
  ·intro ys3 nw
   (k_extra "st"; k_extra "sr"; intro hys3)
   f_tup
   rw [show C.rv.toArray.size = B.rows.length by rw [List.size_toArray, hlr], List.take_length] at hys3
   have hfl1 := List.length_filter_le (fun t : Row => decide (t.2.1 = 1)) B.rows
   have hin : ∀ t ∈ B.rows.filter (fun t => decide (t.2.1 = 1)), t ∈ B.rows := fun t ht => (List.mem_filter.mp ht).1
   have htm : ∀ t ∈ tm, t = (t.2.2.2.2.1, t.2.2.1, t.2.2) ∧ t.2.2 ∈ B.rows := fun t ht => by
    f_tup
    (refine arr ?_ (List.mem_map.mp (hp2.mem_iff.mp ht)); km_mul u; km_mul hu; intro e)
    rw [← e]
    exact ⟨rfl, (List.mem_filter.mp hu).1⟩
   have okT : ∀ d ∈ tm.map tmD, kqdOk 8 d = true := fun d hd => by
    f_tup
    (refine arr ?_ (List.mem_map.mp hd); km_mul t; km_mul ht; k_extra "sr")
    exact tmD_ok (ok _ (htm t ht).2)
   have okI : ∀ d ∈ (B.rows.filter fun t => decide (t.2.1 = 1)).map rwD, kqdOk 8 d = true := rows_ok fun t ht => ok t (hin t ht)
   have hl2 : vs2.length = tm.length := by rw [hD2.length, List.length_map]
   have hl3 : ys3.length = (B.rows.filter fun t => decide (t.2.1 = 1)).length := by rw [hys3.length, List.length_map]
   generalize hI : (B.rows.filter fun t => decide (t.2.1 = 1)) = I at hys3 hfl1 hin okI hl3
   have bstep : ∀ B1 B' ret, B1 = bkOn B tm I wt → ((∃ ti n t tm', tm = (ti, n, t) :: tm' ∧ ti ≤ B1.now ∧ B' = bkRun B1 (acts t.2.2.2) t ∧ ret = true) ∨
     ((∀ ti n t tm', tm = (ti, n, t) :: tm' → B1.now < ti) ∧ B' = bkIdle acts B1 I ∧ ret = !I.isEmpty)) → BkStepR acts wt B B' ret := fun B1 B' ret h1 h2 => by
    subst hI
    exact bkStep_of hp2 hs2 h1 h2
   clear N9 F9
   unfold LCg.FinA
   intro D3 h3 tk3 F3 N3 o3
   replace o3 := OffA.of1 o3
   simp only [OffA, offA_append, and_true, List.cons_append, List.nil_append] at o3
   (repeat (have o3a := And.left o3; replace o3 := And.right o3))
   try simp only [List.nil_append, List.cons_append] at N3
   have N4 : News _ _ h3 ((D3, listOf ys3.toArray ys3.length) :: (D2, listOf vs2.toArray c2) :: (bk, C.o) :: (C.rw, listOf C.rv.toArray C.rn) :: (C.er, listOf C.ev.toArray C.en) :: (C.lg, listOf C.lv.toArray C.ln) :: (mt ++ (add1 ++ r))) := fun p hp => N3 p (by revert p hp; kqd_sub)
   clear N3
   try dsimp only
   have wf1 := wf
   have S1 : BkS bk C.rw C.er C.lg (mt ++ (add1 ++ r)) := S.more hnew1
   have R0 : BkRep prog w (add1 ++ r) C B := R.mono fun p hp => List.mem_append_right _ hp
   have haltI : HaltI := rfl
   f_tup
   k_steps
   clear haltI
   repeat (rename HaltI => hz9; clear hz9)
   refine Stop.mk ?_
   f_tup
   rename News _ _ _ _ => N9
   rename Fr _ _ _ _ => F9
   (try (with_reducible refine unw (by assumption) ?_))
   refine cut1 ((D3, listOf ys3.toArray ys3.length) :: (D2, listOf vs2.toArray c2) :: (bk, C.o) :: (C.rw, listOf C.rv.toArray C.rn) :: (C.er, listOf C.ev.toArray C.en) :: (C.lg, listOf C.lv.toArray C.ln) :: (mt ++ (add1 ++ r))) ((∀ ti n t tm', tm = (ti, n, t) :: tm' → B.now < ti) ∧ B = bkOn B tm I wt) F9 ?_ ?_
   rotate_left
   ·intro h5 tk5 F5 N5
    (km_mul hq1; intro hb1)
    f_tup
    clear F9 N9
    try dsimp only
    f_tup
    k_steps
    refine Stop.mk ?_
    f_tup
    rename News _ _ _ _ => N9
    rename Fr _ _ _ _ => F9
    (try (with_reducible refine unw (by assumption) ?_))
    refine loopU rwD (fun c : BkC × Bk => bkL bk c.1 []) ((D3, listOf ys3.toArray ys3.length) :: (mt ++ (add1 ++ r))) (fun pre tl c => (∀ post, I = pre ++ post → bkIdle acts B I = bkIdle acts c.2 post) ∧ WfKA j c.2 ∧ BkRep prog w (tl ++ (add1 ++ r)) c.1 c.2 ∧ c.1.rw = C.rw ∧ c.1.er = C.er ∧ c.1.lg = C.lg ∧ New (bkL bk C ((D3, listOf ys3.toArray ys3.length) :: (mt ++ (add1 ++ r)))) tl) (c₀ := (C, B)) (nn := ys3.length) ?lphl hys3 rfl F9 ?lpN ?lphp ?lpturn ?lpdone
    case lphl => exact .head _
    case lphp => exact ⟨fun post e => by rw [e]; rfl, wf, R0, rfl, rfl, rfl, new_nil⟩
    case lpN => exact fun p hp => N9 p (by revert p hp; dsimp only [bkL, List.cons_append, List.nil_append]; kqd_sub)
    case lpdone =>
     (km_mul C9; intro B8)
     intro tl u h3 tk3
     (km_mul hrun; km_mul hB; km_mul hR; km_mul e2; km_mul e3; km_mul e4; intro hN)
     intro F3 N3
     f_tup
     clear F9 N9
     dsimp only [bkL, List.cons_append, List.nil_append] at N3
     k_with "compareOp NotEq ref ref" => ((fail_if_success (fail_if_success (have h9 := in_F8))); ((refine' my_neNilB ?nnN ?nna ?nnb ?nnu hys3 ?nns okI ?_; (case nnN => k_asm); (case nna => k_mem); (case nnb => k_mem); (case nnu => ke_room); (case nns => kqd_sub); k_whole)))
     f_tup
     k_steps
     rename News _ _ _ _ => N8
     rename Fr _ _ _ _ => F8
     refine hret _ _ _ _ F8 (fun p hp => N8 p ?_) ⟨_, B8, tl ++ add1, C9, rfl, bstep B _ _ hb1 (.inr ⟨hq1, (hrun [] (by first | k_mem | simp)).symm, by first | exact neB | simp⟩), by rw [List.append_assoc]; exact hR, e2, e3, e4, new_app (hN.sub ?_) hnew1, rfl⟩
     ·revert p hp
      try dsimp only [bkL, List.cons_append, List.nil_append]
      kqd_sub
     ·dsimp only [bkL]
      kqd_sub
    case lpturn =>
     intro pre trow9 post v
     (km_mul C9; intro B8)
     intro tl h9 tk9 own hds hv
     (km_mul hrun; km_mul hB; km_mul hR; km_mul e2; km_mul e3; km_mul e4; intro hN)
     intro hown F8 N8
     f_tup
     clear F9 N9
     f_tup
     (refine arr ?_ (rwD_inv hv); km_mul z7; km_mul cz7; km_mul u7; km_mul u8; km_mul u9; km_mul u6; k_extra "st"; k_extra "sr"; intro hz7)
     dsimp only at hN e2 e3 e4 hB hR hrun
     have hin9 : trow9 ∈ B.rows := hin _ (by rw [hds]; simp)
     have hnm9 := wf.nm _ hin9
     have N7 : News _ _ h9 (bkL bk C9 (own ++ (D3, listOf ys3.toArray ys3.length) :: (mt ++ (tl ++ (add1 ++ r))))) := fun p hp => N8 p (by revert p hp; dsimp only [bkL, List.cons_append, List.nil_append]; kqd_sub)
     clear N8
     have hR8 := hR
     f_tup
     first | (revert hR8; km_mul E0; km_mul E1; km_mul E2; intro E3) | (obtain ⟨E0, E1, E2, E3⟩ := hR8)
     dsimp only [bkL] at N7
     f_tup
     k_steps
     refine Stop.mk ?_
     f_tup
     rename News _ _ _ _ => N9
     rename Fr _ _ _ _ => F9
     refine kqd_isInB N9 (by k_mem) rfl rfl E1 (by kqd_sub) hv (by kqd_sub) (rows_ok fun t ht => names_ok _ (hB.nm t ht)) (rows_ok (fun t ht => names_ok _ (wf.nm t ht)) _ (List.mem_map_of_mem hin9)) (by ke_room) ?_ ?_
     ·intro hm0
      have hm9 : trow9 ∈ B8.rows := rwD_mem.mp hm0
      clear hm0
      try dsimp only
      f_tup
      k_steps
      refine Stop.mk ?_
      f_tup
      rename News _ _ _ _ => N6
      rename Fr _ _ _ _ => F6
      have S4 : BkS bk C9.rw C9.er C9.lg ((own ++ (D3, listOf ys3.toArray ys3.length) :: mt) ++ (tl ++ (add1 ++ r))) := by
       rw [List.append_assoc]
       exact BkS.front (((BkS.more (mt := (D3, listOf ys3.toArray ys3.length) :: mt) (S1.one (by k_ne) (by k_ne) (by k_ne) (by k_ne)) hN).as e2 e3 e4)) fun q hq p hp => hown q (List.mem_append_left _ hq) p hp
      have N5 : News _ _ _ (bkL bk C9 ((own ++ (D3, listOf ys3.toArray ys3.length) :: mt) ++ (tl ++ (add1 ++ r)))) := fun p hp => N6 p (by revert p hp; dsimp only [bkL, List.cons_append, List.nil_append]; kqd_sub)
      refine Does.use (by k_asm) F6 (by k_asm) (by k_asm) N5 rfl (law_own_run_does (prog := prog) (mean := mean) (mt := own ++ (D3, listOf ys3.toArray ys3.length) :: mt) (r := tl ++ (add1 ++ r)) (C := C9) (B := B8) (n := 0) (acts := acts) S4 hR (hB.bkB (by w_how) (by w_how) (by w_how)) (List.mem_append_right _ (List.mem_append_right _ hz7)) hm9 hnm9 (ok9 _ hnm9) (W.mono fun p hp => List.mem_append_right _ (List.mem_append_right _ hp))) (by ktr_room) (by ktr_units) ?_
      clear N6 N5 F6
      intro v9 h8 tk8 news9 F9 N9
      (k_extra "st"; k_extra "sr"; km_mul add; km_mul C8; km_mul hR8; km_mul f1; km_mul f2; km_mul f3; km_mul hn9; k_extra "sr")
      f_tup
      f_tup
      k_steps
      rename News _ _ _ _ => N9
      rename Fr _ _ _ _ => F9
      refine UPost.next (C8, bkRun B8 (acts trow9.2.2.2) trow9) add F9 N9 (fun y hy => by simp only [if_neg hy]) ?sub ?hn ⟨fun post' e => ?_, run_K hB hm9 (ok9 _ hnm9), by rw [List.append_assoc]; exact hR8, f1.trans e2, f2.trans e3, f3.trans e4, new_app ((hn9.moved (C := C) e2 e3 e4).sub ?_) hN⟩
      case sub =>
       dsimp only [bkL, List.cons_append, List.nil_append]
       kqd_sub
      case hn => exact own_off hown f1 f2 f3 hn9 (by dsimp only [bkL]; kqd_sub)
      ·have e9 := hrun (trow9 :: post') (by rw [e, List.append_assoc]; rfl)
       rw [e9]
       show bkIdle acts B8 (trow9 :: post') = _
       rw [bkIdle, if_pos hm9]
      ·dsimp only [bkL, List.cons_append, List.nil_append]
       kqd_sub
     ·intro hm0
      have hm9 : ¬ trow9 ∈ B8.rows := fun h => hm0 (rwD_mem.mpr h)
      clear hm0
      try dsimp only
      f_tup
      k_steps
      rename News _ _ _ _ => N6
      rename Fr _ _ _ _ => F6
      refine UPost.next (C9, B8) [] F6 N6 (fun y hy => by simp only [if_neg hy]) ?sub2 ?hn2 ⟨fun post' e => ?_, hB, hR, e2, e3, e4, hN⟩
      case sub2 =>
       dsimp only [bkL, List.cons_append, List.nil_append]
       kqd_sub
      case hn2 =>
       intro p hp q hq
       rw [List.append_nil] at hp
       exact hown p (List.mem_append_left _ hp) q hq
      ·have e9 := hrun (trow9 :: post') (by rw [e, List.append_assoc]; rfl)
       rw [e9]
       show bkIdle acts B8 (trow9 :: post') = _
       rw [bkIdle, if_neg hm9]
   f_tup
   focus (rcases list_or3 tm with o9_146 | o9_146; (focus (revert o9_146; k_extra "sr")); rotate_left; (focus (revert o9_146; km_mul ti; km_mul tn; km_mul trow; km_mul tm'; k_extra "sr")); rotate_left)
   ·skip
    have hl4 : vs2.length = 0 := by rw [hl2]; rfl
    f_tup
    k_steps
    rename News _ _ _ _ => N8
    rename Fr _ _ _ _ => F8
    exact JL.next F8 (fun p hp => N8 p (by revert p hp; kqd_sub)) ⟨fun _ _ _ _ e => (nomatch e), rfl⟩
   ·skip
    have hl4 : vs2.length = tm'.length + 1 := by rw [hl2]; rfl
    f_tup
    (refine arr ?_ (htm _ (.head _)); km_mul et; intro hrow)
    have hnm1 := wf.nm _ hrow
    dsimp only at et hrow hnm1
    have hD3 := hD2
    have hvc : ∃ v0 vs4, vs2 = v0 :: vs4 ∧ DatIn (add1 ++ r) v0 (tmD (ti, tn, trow)) := by
     rw [List.map_cons] at hD3
     cases hD3 with
     |cons h _ => exact ⟨_, _, rfl, h⟩
    f_tup
    (revert hvc; km_mul v0; km_mul vs4; k_extra "st"; k_extra "sr"; intro hv0)
    f_tup
    (refine arr ?_ (tmD_inv hv0); km_mul z0; km_mul cz0; km_mul u1; km_mul u2; km_mul y0; k_extra "st"; k_extra "sr"; km_mul hz0; intro hy0)
    f_tup
    (refine arr ?_ (rwD_inv hy0); km_mul z1; km_mul cz1; km_mul y1; km_mul y2; km_mul y3; km_mul y4; k_extra "st"; k_extra "sr"; intro hz1)
    dsimp only at hz0 hz1
    clear hD3 hv0 hy0
    have mk1 : HeadOf D2 (.ref z0) := trivial
    have mk2 : TupOf z0 [.int ti u1, .int tn u2, .ref z1] := trivial
    f_tup
    focus (rcases list_or I with o9_148 | o9_148; (focus (revert o9_148; k_extra "sr")); rotate_left; (focus (revert o9_148; km_mul t0; km_mul I'; k_extra "sr")); rotate_left)
    ·skip
     have hl5 : ys3.length = 0 := by rw [hl3]; rfl
     have hbt : wt = true → B.now < ti → ({ B with now := ti } : Bk) = bkOn B ((ti, tn, trow) :: tm') [] wt := fun hw h => by rw [hw]; simp [bkOn, h]
     have hbf : wt = true → ¬ B.now < ti → B = bkOn B ((ti, tn, trow) :: tm') [] wt := fun hw h => by rw [hw]; simp [bkOn, h]
     have hbw : wt = false → B = bkOn B ((ti, tn, trow) :: tm') [] wt := fun hw => by rw [hw]; simp [bkOn]
     f_tup
     k_steps
     ·rename B.now < ti => hlt9
      have hb1 := hbt (by assumption) hlt9
      have hle1 : ti ≤ ({ B with now := ti } : Bk).now := Int.le_refl _
      rename Obj.IsDictOf _ _ _ => H9
      rw [bkV_now] at H9
      f_tup
      (refine arr ?_ (dict_no H9); km_mul o9; k_extra "sr")
      have wf1 : WfKA j { B with now := ti } := ⟨wf.nd, wf.lo, wf.c0, wf.nm, wf.kd, wf.len, wf.num, wf.log, wf.pt, wf.err⟩
      have R1 : BkRep prog w (add1 ++ r) { C with o := o9, tn := u1 } { B with now := ti } := ⟨H9, R0.rows, R0.errs, R0.log⟩
      with_unfolding_all (show wpAny _ _ (compareOp CmpOp.LtE (Value.int ti u1) (Value.int ti u1)) _ _ _)
      f_tup
      k_steps
      refine Stop.mk ?_
      f_tup
      rename News _ _ _ _ => N9
      rename Fr _ _ _ _ => F9
      have N5 : News _ _ _ (bkL bk ({ C with o := o9, tn := u1 }) (mt ++ (add1 ++ r))) := fun p hp => N9 p (by revert p hp; dsimp only [bkL]; kqd_sub)
      refine Does.use (by k_asm) F9 (by k_asm) (by k_asm) N5 rfl (law_own_run_does (prog := prog) (mean := mean) (mt := mt) (r := add1 ++ r) (C := { C with o := o9, tn := u1 }) (B := { B with now := ti }) (n := 0) (acts := acts) S1 R1 (wf1.bkB (by w_how) (by w_how) (by w_how)) hz1 hrow hnm1 (ok9 _ hnm1) (W.mono fun p hp => List.mem_append_right _ hp)) (by ktr_room) (by ktr_units) ?_
      clear N9 N5 F9
      intro v9 h9 tk9 news9 F9 N9
      (k_extra "st"; k_extra "sr"; km_mul add; km_mul C9; km_mul hR9; km_mul f1; km_mul f2; km_mul f3; km_mul hn9; k_extra "sr")
      f_tup
      f_tup
      k_steps
      refine JL.ret ?_
      f_tup
      k_steps
      rename News _ _ _ _ => N8
      rename Fr _ _ _ _ => F8
      refine hret _ _ _ _ F8 (fun p hp => N8 p ?_) ⟨true, _, add ++ add1, C9, rfl, bstep ({ B with now := ti }) _ true hb1 (.inl ⟨_, _, _, _, rfl, hle1, rfl, rfl⟩), by rw [List.append_assoc]; exact hR9, f1, f2, f3, new_app ((hn9.moved (C := C) rfl rfl rfl).sub ?_) hnew1, rfl⟩
      ·revert p hp
       try dsimp only [bkL, List.cons_append, List.nil_append]
       kqd_sub
      ·dsimp only [bkL]
       kqd_sub
     ·rename ¬ B.now < ti => hlt9
      have hb1 := hbf (by assumption) hlt9
      have hle1 : ti ≤ B.now := by w_how
      refine Stop.mk ?_
      f_tup
      rename News _ _ _ _ => N9
      rename Fr _ _ _ _ => F9
      have N5 : News _ _ _ (bkL bk (C) (mt ++ (add1 ++ r))) := fun p hp => N9 p (by revert p hp; dsimp only [bkL]; kqd_sub)
      refine Does.use (by k_asm) F9 (by k_asm) (by k_asm) N5 rfl (law_own_run_does (prog := prog) (mean := mean) (mt := mt) (r := add1 ++ r) (C := C) (B := B) (n := 0) (acts := acts) S1 R0 (wf1.bkB (by w_how) (by w_how) (by w_how)) hz1 hrow hnm1 (ok9 _ hnm1) (W.mono fun p hp => List.mem_append_right _ hp)) (by ktr_room) (by ktr_units) ?_
      clear N9 N5 F9
      intro v9 h9 tk9 news9 F9 N9
      (k_extra "st"; k_extra "sr"; km_mul add; km_mul C9; km_mul hR9; km_mul f1; km_mul f2; km_mul f3; km_mul hn9; k_extra "sr")
      f_tup
      f_tup
      k_steps
      refine JL.ret ?_
      f_tup
      k_steps
      rename News _ _ _ _ => N8
      rename Fr _ _ _ _ => F8
      refine hret _ _ _ _ F8 (fun p hp => N8 p ?_) ⟨true, _, add ++ add1, C9, rfl, bstep (B) _ true hb1 (.inl ⟨_, _, _, _, rfl, hle1, rfl, rfl⟩), by rw [List.append_assoc]; exact hR9, f1, f2, f3, new_app ((hn9.moved (C := C) rfl rfl rfl).sub ?_) hnew1, rfl⟩
      ·revert p hp
       try dsimp only [bkL, List.cons_append, List.nil_append]
       kqd_sub
      ·dsimp only [bkL]
       kqd_sub
     ·rename ti ≤ B.now => hle1
      have hb1 := hbw (by assumption)
      refine Stop.mk ?_
      f_tup
      rename News _ _ _ _ => N9
      rename Fr _ _ _ _ => F9
      have N5 : News _ _ _ (bkL bk (C) (mt ++ (add1 ++ r))) := fun p hp => N9 p (by revert p hp; dsimp only [bkL]; kqd_sub)
      refine Does.use (by k_asm) F9 (by k_asm) (by k_asm) N5 rfl (law_own_run_does (prog := prog) (mean := mean) (mt := mt) (r := add1 ++ r) (C := C) (B := B) (n := 0) (acts := acts) S1 R0 (wf1.bkB (by w_how) (by w_how) (by w_how)) hz1 hrow hnm1 (ok9 _ hnm1) (W.mono fun p hp => List.mem_append_right _ hp)) (by ktr_room) (by ktr_units) ?_
      clear N9 N5 F9
      intro v9 h9 tk9 news9 F9 N9
      (k_extra "st"; k_extra "sr"; km_mul add; km_mul C9; km_mul hR9; km_mul f1; km_mul f2; km_mul f3; km_mul hn9; k_extra "sr")
      f_tup
      f_tup
      k_steps
      refine JL.ret ?_
      f_tup
      k_steps
      rename News _ _ _ _ => N8
      rename Fr _ _ _ _ => F8
      refine hret _ _ _ _ F8 (fun p hp => N8 p ?_) ⟨true, _, add ++ add1, C9, rfl, bstep (B) _ true hb1 (.inl ⟨_, _, _, _, rfl, hle1, rfl, rfl⟩), by rw [List.append_assoc]; exact hR9, f1, f2, f3, new_app ((hn9.moved (C := C) rfl rfl rfl).sub ?_) hnew1, rfl⟩
      ·revert p hp
       try dsimp only [bkL, List.cons_append, List.nil_append]
       kqd_sub
      ·dsimp only [bkL]
       kqd_sub
     ·rename ¬ ti ≤ B.now => hle1
      rename News _ _ _ _ => N8
      rename Fr _ _ _ _ => F8
      exact JL.next F8 (fun p hp => N8 p (by revert p hp; kqd_sub)) ⟨fun _ _ _ _ e => by cases e; w_how, hbw (by assumption)⟩
    ·skip
     have hl5 : ys3.length = I'.length + 1 := by rw [hl3]; rfl
     have hb1 : B = bkOn B ((ti, tn, trow) :: tm') (t0 :: I') wt := by simp [bkOn]
     f_tup
     k_steps
     ·rename ti ≤ B.now => hle1
      refine Stop.mk ?_
      f_tup
      rename News _ _ _ _ => N9
      rename Fr _ _ _ _ => F9
      have N5 : News _ _ _ (bkL bk (C) (mt ++ (add1 ++ r))) := fun p hp => N9 p (by revert p hp; dsimp only [bkL]; kqd_sub)
      refine Does.use (by k_asm) F9 (by k_asm) (by k_asm) N5 rfl (law_own_run_does (prog := prog) (mean := mean) (mt := mt) (r := add1 ++ r) (C := C) (B := B) (n := 0) (acts := acts) S1 R0 (wf1.bkB (by w_how) (by w_how) (by w_how)) hz1 hrow hnm1 (ok9 _ hnm1) (W.mono fun p hp => List.mem_append_right _ hp)) (by ktr_room) (by ktr_units) ?_
      clear N9 N5 F9
      intro v9 h9 tk9 news9 F9 N9
      (k_extra "st"; k_extra "sr"; km_mul add; km_mul C9; km_mul hR9; km_mul f1; km_mul f2; km_mul f3; km_mul hn9; k_extra "sr")
      f_tup
      f_tup
      k_steps
      refine JL.ret ?_
      f_tup
      k_steps
      rename News _ _ _ _ => N8
      rename Fr _ _ _ _ => F8
      refine hret _ _ _ _ F8 (fun p hp => N8 p ?_) ⟨true, _, add ++ add1, C9, rfl, bstep (B) _ true hb1 (.inl ⟨_, _, _, _, rfl, hle1, rfl, rfl⟩), by rw [List.append_assoc]; exact hR9, f1, f2, f3, new_app ((hn9.moved (C := C) rfl rfl rfl).sub ?_) hnew1, rfl⟩
      ·revert p hp
       try dsimp only [bkL, List.cons_append, List.nil_append]
       kqd_sub
      ·dsimp only [bkL]
       kqd_sub
     ·rename ¬ ti ≤ B.now => hle1
      rename News _ _ _ _ => N8
      rename Fr _ _ _ _ => F8
      exact JL.next F8 (fun p hp => N8 p (by revert p hp; kqd_sub)) ⟨fun _ _ _ _ e => by cases e; w_how, hb1⟩
 ) ?_
 intro q f
 simpa using f (default : (by exact Fin 1))

theorem ok9 : ∀ y, P9 y := Classical.choose_spec ex9 (by with_unfolding_all exact core9)
end law_own_step_h
theorem law_own_step_does {prog : Program} {w : World} {mean : ExcName → Option Value} {mg mb : Str → Option Value} {mt r : Led} {bk rd j : Nat} {C : BkC} {B : Bk} {acts : Str → List Act} {wt : Bool}
  (S : BkS bk C.rw C.er C.lg (mt ++ r)) (R : BkRep prog w r C B) (wf : WfKA j B) (hj : j ≤ 20) (ok9 : ∀ nm ∈ sNames, ActsOk (wtN nm) (acts nm)) (W : Rws prog w rd acts r) :
  Does prog w mean mg mb 614 [.ref bk, .ref rd, .bool wt] 8 240 (bkL bk C (mt ++ r))
   (fun v l => ∃ ret B' add C', v = .bool ret ∧ BkStepR acts wt B B' ret ∧ BkRep prog w (add ++ r) C' B' ∧ C'.rw = C.rw ∧ C'.er = C.er ∧ C'.lg = C.lg ∧ New (bkL bk C (mt ++ r)) add ∧ l = bkL bk C' (mt ++ (add ++ r))) := by
 intros dp un gd cn cs a' ccd cl outer A₀ base h₀ L m s Q E
 exact law_own_step_h.ok9 (prog, w, mean, mg, mb, mt, r, bk, rd, j, C, B, acts, wt, (dp, un, gd, cn, cs, a', ccd, cl, outer, A₀, base, h₀, L, m, s, Q, E)) S R wf hj ok9 W
end
theorem In_F9.in_F9 : True := trivial
noncomputable section
open In_F9
theorem tD_ok {t : Int × Int × Str} (h : PyData.strOk t.2.2 = true) : kqdOk 8 (tD t) = true := by simp [tD, kqdOk, h]
theorem iD_ok {t : Int × Str} (h : PyData.strOk t.2 = true) : kqdOk 8 (iD t) = true := by simp [iD, kqdOk, h]
section
variable {prog : Program} {w : World} {A : Around} {E : Value → Shared → Prop} {s : Shared} {h₀ : Heap} {L a b : Addr} {news n₁ n₂ : Led} {oa ob : Obj} {xs ys : List Value} {ka kb : Nat} {ds es : List Dat} {Q : Value → Shared → Prop}
theorem kqd_neS (N : News h₀ L s.heap news) (ma : (a, oa) ∈ news) (ca : oa.cls = .type "list") (da : oa.data = .seq xs.toArray ka) (Da : DatAll n₁ xs ds) (sa : ∀ p ∈ n₁, p ∈ news)
  (mb : (b, ob) ∈ news) (cb : ob.cls = .type "list") (db : ob.data = .seq ys.toArray kb) (Db : DatAll n₂ ys es) (sb : ∀ p ∈ n₂, p ∈ news)
  (ha : ∀ d ∈ ds, kqdOk 8 d = true) (hb : ∀ d ∈ es, kqdOk 8 d = true) (hu : A.units + 64 < cLine) (e : ds = es) (h : Q (.bool false) s) : wpAny (model prog w) A (compareOp .NotEq (.ref a) (.ref b)) Q E s :=
 kqd_ne N ma ca da Da sa mb cb db Db sb ha hb hu (by rw [dec_t e]; exact h)
theorem kqd_eqS (N : News h₀ L s.heap news) (ma : (a, oa) ∈ news) (ca : oa.cls = .type "list") (da : oa.data = .seq xs.toArray ka) (Da : DatAll n₁ xs ds) (sa : ∀ p ∈ n₁, p ∈ news)
  (mb : (b, ob) ∈ news) (cb : ob.cls = .type "list") (db : ob.data = .seq ys.toArray kb) (Db : DatAll n₂ ys es) (sb : ∀ p ∈ n₂, p ∈ news)
  (ha : ∀ d ∈ ds, kqdOk 8 d = true) (hb : ∀ d ∈ es, kqdOk 8 d = true) (hu : A.units + 64 < cLine) (e : ds = es) (h : Q (.bool true) s) : wpAny (model prog w) A (compareOp .Eq (.ref a) (.ref b)) Q E s :=
 kqd_eq N ma ca da Da sa mb cb db Db sb ha hb hu (by rw [dec_t e]; exact h)
end
theorem wrd_F9_1 : True := by
 k_with "my eval ListComp" => ((fail_if_success (fail_if_success (have h9 := in_F9))); (((have halt9 := (by assumption : HaltS)); k_here; k_dflt (refine LCt.ListComp_T (F₀ := by k_asm) (by with_unfolding_all rfl) (by decide) (by rfl) (by decide) (by rfl) ?_))))
 k_with "my exec Assign cons ListComp" => ((fail_if_success (fail_if_success (have h9 := in_F9))); (((have halt9 := (by assumption : HaltS)); (with_reducible show wpAny _ _ (exec (Stmt.Assign [PySem.Expr.Name _ _] _ _) _) _ _ _); k_here; k_dflt (refine LCt.Assign_ListComp_T (F₀ := by k_asm) (by rfl) (by with_unfolding_all rfl) (by with_unfolding_all rfl) (by decide) (by rfl) (by decide) (by rfl) (by rfl) (by rfl) ?_))))
 k_with "my call builtin:sorted" => ((fail_if_success (fail_if_success (have h9 := in_F9))); (((have halt9 := (by assumption : HaltS)); refine Stop.out ?_)))
 k_with "my CompSrcT" => ((fail_if_success (fail_if_success (have h9 := in_F9))); (((have halt9 := (by assumption : HaltS)); refine Stop.out ?_)))
 k_with "my CompEnd" => ((fail_if_success (fail_if_success (have h9 := in_F9))); (((have halt9 := (by assumption : HaltS)); refine Stop.out ?_)))
 k_with "my compareOp NotEq ref ref" => ((fail_if_success (fail_if_success (have h9 := in_F9))); (((have halt9 := (by assumption : HaltS)); refine Stop.out ?_)))
 k_with "my compareOp Eq ref ref" => ((fail_if_success (fail_if_success (have h9 := in_F9))); (((have halt9 := (by assumption : HaltS)); refine Stop.out ?_)))
 trivial
namespace law_same1_h
noncomputable abbrev T9 : Type := Program × World × (ExcName → Option Value) × (Str → Option Value) × (Str → Option Value) × Led × Led × Nat × Nat × Nat × Nat × Nat × Nat × EvC × EvS × List Value × List Str × BkC × List Row × Cx
noncomputable def S9 (prog : Program) (w : World) (mean : ExcName → Option Value) (mg : Str → Option Value) (mb : Str → Option Value) (mt : Led) (r : Led) (ev : Nat) (ed : Nat) (lg : Nat) (bk : Nat) (ne : Nat) (j : Nat) (c : EvC) (a : EvS) (es : List Value) (errs : List Str) (C : BkC) (rows : List Row) (x9 : Cx) : Prop :=
 ∀ (Z : Rel a errs (⟨a.now, a.num, rows, errs, a.log⟩ : Bk)) (ok : OkL a errs) (wf : WfA j a) (hj : j ≤ 20) (hl : errs.length ≤ a.log.length) (R : EvRep r c a) (K : BkRep prog w r C (⟨a.now, a.num, rows, errs, a.log⟩ : Bk)) (hes : DatAll [] es (errs.map Dat.str)), Does.at prog w mean mg mb 619 [.ref ev, .ref lg, .ref bk] 4 100 (evL w.params ev ed lg c a ((c.er, listOf es.toArray ne) :: bkL bk C (mt ++ r)))
   (fun v l => v = .bool true ∧ l = evL w.params ev ed lg c a ((c.er, listOf es.toArray ne) :: bkL bk C (mt ++ r))) x9.1 x9.2.1 x9.2.2.1 x9.2.2.2.1 x9.2.2.2.2.1 x9.2.2.2.2.2.1 x9.2.2.2.2.2.2.1 x9.2.2.2.2.2.2.2.1 x9.2.2.2.2.2.2.2.2.1 x9.2.2.2.2.2.2.2.2.2.1 x9.2.2.2.2.2.2.2.2.2.2.1 x9.2.2.2.2.2.2.2.2.2.2.2.1 x9.2.2.2.2.2.2.2.2.2.2.2.2.1 x9.2.2.2.2.2.2.2.2.2.2.2.2.2.1 x9.2.2.2.2.2.2.2.2.2.2.2.2.2.2.1 x9.2.2.2.2.2.2.2.2.2.2.2.2.2.2.2.1 x9.2.2.2.2.2.2.2.2.2.2.2.2.2.2.2.2
noncomputable def P9 : T9 → Prop := cur fun prog => cur fun w => cur fun mean => cur fun mg => cur fun mb => cur fun mt => cur fun r => cur fun ev => cur fun ed => cur fun lg => cur fun bk => cur fun ne => cur fun j => cur fun c => cur fun a => cur fun es => cur fun errs => cur fun C => cur fun rows => fun x9 => S9 prog w mean mg mb mt r ev ed lg bk ne j c a es errs C rows x9
theorem ex9 : ∃ x, P9 x → ∀ y, P9 y := drinker P9 (PySem.Challenge.rw_np0139_01.prog, w0, default, default, default, default, default, default, default, default, default, default, default, (⟨0, 0, 0, fun _ => 0, 0, 0, 0, 0, 0, [], [], []⟩ : EvC), (⟨0, 0, [], [], []⟩ : EvS), default, default, (⟨0, 0, 0, default, 0, 0, [], [], [], 0, 0, 0⟩ : BkC), default, cx0)
@[irreducible] def c9 : T9 := Classical.choose ex9
@[irreducible] def prog := c9.1
@[irreducible] def w := c9.2.1
@[irreducible] def mean := c9.2.2.1
@[irreducible] def mg := c9.2.2.2.1
@[irreducible] def mb := c9.2.2.2.2.1
@[irreducible] def mt := c9.2.2.2.2.2.1
@[irreducible] def r := c9.2.2.2.2.2.2.1
@[irreducible] def ev := c9.2.2.2.2.2.2.2.1
@[irreducible] def ed := c9.2.2.2.2.2.2.2.2.1
@[irreducible] def lg := c9.2.2.2.2.2.2.2.2.2.1
@[irreducible] def bk := c9.2.2.2.2.2.2.2.2.2.2.1
@[irreducible] def ne := c9.2.2.2.2.2.2.2.2.2.2.2.1
@[irreducible] def j := c9.2.2.2.2.2.2.2.2.2.2.2.2.1
@[irreducible] def c := c9.2.2.2.2.2.2.2.2.2.2.2.2.2.1
@[irreducible] def a := c9.2.2.2.2.2.2.2.2.2.2.2.2.2.2.1
@[irreducible] def es := c9.2.2.2.2.2.2.2.2.2.2.2.2.2.2.2.1
@[irreducible] def errs := c9.2.2.2.2.2.2.2.2.2.2.2.2.2.2.2.2.1
@[irreducible] def C := c9.2.2.2.2.2.2.2.2.2.2.2.2.2.2.2.2.2.1
@[irreducible] def rows := c9.2.2.2.2.2.2.2.2.2.2.2.2.2.2.2.2.2.2.1
@[irreducible] def x9 := c9.2.2.2.2.2.2.2.2.2.2.2.2.2.2.2.2.2.2.2
abbrev h₀ := x9.2.2.2.2.2.2.2.2.2.2.2.1
theorem core9 : S9 prog w mean mg mb mt r ev ed lg bk ne j c a es errs C rows x9 := by
 refine wr_z (by
 intro Z ok wf hj hl R K hes B9 F X T N hk hdp hu hret
 have hwK := Z.wfK wf hl
 have hB := hwK.bkB (n := 20) (by w_how) (by w_how) (by w_how)
 f_tup
 first | (revert Z; km_mul o9_153; km_mul o9_154; km_mul o9_155; km_mul o9_156; km_mul z5; km_mul z6; km_mul z7; km_mul z8; km_mul z9; intro z10) | (obtain ⟨_, _, _, _, z5, z6, z7, z8, z9, z10⟩ := Z)
 try dsimp only at z5 z6 z7 z8 z9
 f_tup
 first | (revert K; km_mul D0; km_mul D; km_mul D2; intro D3) | (obtain ⟨D0, D, D2, D3⟩ := K)
 f_tup
 first | (revert R; km_mul G; km_mul G2; intro G3) | (obtain ⟨G, G2, G3⟩ := R)
 f_tup
 first | (revert hB; km_mul nd; km_mul lo; km_mul c0; km_mul c1; km_mul few; km_mul log; km_mul err; intro okr) | (obtain ⟨nd, lo, c0, c1, few, log, err, okr⟩ := hB)
 f_tup
 first | (revert ok; km_mul okl; intro oke) | (obtain ⟨okl, oke⟩ := ok)
 dsimp only at D D2 D3 nd few log err okr
 have hlr : C.rv.length = rows.length := by rw [D.length, List.length_map]
 have hsub : ∀ p ∈ r, p ∈ mt ++ r := fun p hp => List.mem_append_right _ hp
 have hfl0 := List.length_filter_le (fun t : Row => decide (t.2.1 = 0)) rows
 have hfl1 := List.length_filter_le (fun t : Row => decide (t.2.1 = 1)) rows
 simp only [evL, bkL] at N hret ⊢
 refine wpAny_call ?_
 k_dflt ktr_enter
 have halt : HaltS := trivial
 f_tup
 k_steps
 refine Stop.mk ?_
 f_tup
 rename News _ _ _ _ => N9
 rename Fr _ _ _ _ => F9
 refine LCt.CompSrcT.ledger rfl F9 N9 (by k_mem) (by rw [List.size_toArray, sizeLine_eq]; w_how) ?_
 intro g
 refine my_compT (fun i ys nw => ∃ add, nw = add ++ evL w.params ev ed lg c a ((c.er, listOf es.toArray ne) :: bkL bk C (mt ++ r)) ∧ DatAll (add ++ r) ys ((((rows.take i).filter fun t => decide (t.2.1 = 0)).map fun t => (t.2.2.1, t.1, t.2.2.2)).map tD)) ⟨[], rfl, .nil⟩ ?_ ?_
 ·intro i' ys nw v I oI Cx oC Dl m₂ hh tkk E' hi'
  (km_mul add; k_extra "st"; k_extra "sr"; intro hys)
  intro hPv hC hx' F6 N6 off6 ne6
  f_tup
  have hv2 : C.rv[i']? = some v := by simpa using hPv
  f_tup
  (refine arr ?_ (dat_row D hv2); km_mul t9; km_mul hi2; intro hd)
  clear hv2
  f_tup
  (refine arr ?_ (rwD_inv hd); km_mul zz; km_mul cz; km_mul u1; km_mul u2; km_mul u3; km_mul u4; k_extra "st"; k_extra "sr"; intro hzz)
  have hz' := hsub _ hzz
  clear N9 F9
  dsimp only [evL, bkL] at N6
  have ef := filt_next (fun t : Row => decide (t.2.1 = 0)) hi2
  f_tup
  k_steps
  all_goals refine Stop.mk ?_
  all_goals rename News _ _ _ _ => N7
  ·f_tup
   (refine arr ?_ (led1 N7); km_mul D7; km_mul o7; km_mul e7; intro ho7)
   rw [← ho7] at N7
   subst e7
   refine LCg.CompEnd.intro (by assumption) N7 ((D7, o7) :: (add ++ evL w.params ev ed lg c a ((c.er, listOf es.toArray ne) :: bkL bk C (mt ++ r)))) (by dsimp only [evL, bkL]; kqd_sub) ⟨⟨by k_ne, by k_ne, by k_ne⟩, off6⟩ (Or.inr ⟨_, by dsimp only [evL, bkL]; k_mem, rfl, _, rfl⟩) ⟨(D7, o7) :: add, rfl, ?_⟩
   rw [ef, if_pos (by simpa using ‹_ = (0 : Int)›), List.map_append, List.map_append]
   refine (hys.mono fun p hp => .tail _ hp).append (.one ?_)
   rw [ho7]
   exact .tuple (.head _) (.cons (.int _ _) (.cons (.int _ _) (.cons (.str _ _) .nil)))
  ·refine LCg.CompEnd.intro (by assumption) N7 (add ++ evL w.params ev ed lg c a ((c.er, listOf es.toArray ne) :: bkL bk C (mt ++ r))) (by dsimp only [evL, bkL]; kqd_sub) off6 (Or.inr ⟨_, by dsimp only [evL, bkL]; k_mem, rfl, _, rfl⟩) ⟨add, rfl, ?_⟩
   rw [ef, if_neg (by simpa using ‹_ ≠ (0 : Int)›), List.append_nil]
   exact hys
 ·intro ys1 nw
  (km_mul add1; k_extra "st"; k_extra "sr"; intro hys1)
  f_tup
  rw [show C.rv.toArray.size = rows.length by rw [List.size_toArray, hlr], List.take_length] at hys1
  clear N9 F9
  dsimp only [evL, bkL]
  f_tup
  k_steps
  refine Stop.mk ?_
  f_tup
  rename News _ _ _ _ => N9
  rename Fr _ _ _ _ => F9
  k_dflt (refine' my_sortedD (r := add1 ++ r) tD (fun t => (t.1, t.2.1)) (fun t => ⟨_, _, rfl⟩) F9 N9 ?sdm hys1 ?sds ?sdz ?sdn ?_)
  case sdm => k_mem
  case sds => kqd_sub
  case sdz => rw [List.length_map]; w_how
  case sdn =>
   rw [List.map_map]
   exact nd.sublist (List.filter_sublist.map _)
  intro D4 c2 h2 tm vs2 hp2 hs2 hD2 F2 N2 lt2
  k_lt lt2
  clear N9 F9
  dsimp only at hs2
  have etm : a.q = tm := perm_srt (z9.trans hp2.symm) z10 hs2
  subst etm
  f_tup
  k_steps
  refine Stop.mk ?_
  f_tup
  rename News _ _ _ _ => N9
  rename Fr _ _ _ _ => F9
  have N4 : News _ _ _ ((D4, listOf vs2.toArray c2) :: evL w.params ev ed lg c a ((c.er, listOf es.toArray ne) :: bkL bk C (mt ++ (add1 ++ r)))) := fun p hp => N9 p (by revert p hp; dsimp only [evL, bkL]; kqd_sub)
  clear N9
  dsimp only [evL, bkL] at N4
  refine LCt.CompSrcT.ledger rfl F9 N4 (by k_mem) (by rw [List.size_toArray, sizeLine_eq]; w_how) ?_
  intro g
  refine my_compT (fun i ys nw => ∃ add, nw = add ++ ((D4, listOf vs2.toArray c2) :: evL w.params ev ed lg c a ((c.er, listOf es.toArray ne) :: bkL bk C (mt ++ (add1 ++ r)))) ∧ DatAll (add ++ r) ys ((((rows.take i).filter fun t => decide (t.2.1 = 1)).map fun t => (t.1, t.2.2.2)).map iD)) ⟨[], rfl, .nil⟩ ?_ ?_
  ·intro i' ys nw v I oI Cx oC Dl m₂ hh tkk E' hi'
   (km_mul add; k_extra "st"; k_extra "sr"; intro hys)
   intro hPv hC hx' F6 N6 off6 ne6
   f_tup
   have hv2 : C.rv[i']? = some v := by simpa using hPv
   f_tup
   (refine arr ?_ (dat_row D hv2); km_mul t9; km_mul hi2; intro hd)
   clear hv2
   f_tup
   (refine arr ?_ (rwD_inv hd); km_mul zz; km_mul cz; km_mul u1; km_mul u2; km_mul u3; km_mul u4; k_extra "st"; k_extra "sr"; intro hzz)
   have hz' := hsub _ hzz
   clear N4 F9
   dsimp only [evL, bkL] at N6
   have ef := filt_next (fun t : Row => decide (t.2.1 = 1)) hi2
   f_tup
   k_steps
   all_goals refine Stop.mk ?_
   all_goals rename News _ _ _ _ => N7
   ·f_tup
    (refine arr ?_ (led1 N7); km_mul D7; km_mul o7; km_mul e7; intro ho7)
    rw [← ho7] at N7
    subst e7
    refine LCg.CompEnd.intro (by assumption) N7 ((D7, o7) :: (add ++ ((D4, listOf vs2.toArray c2) :: evL w.params ev ed lg c a ((c.er, listOf es.toArray ne) :: bkL bk C (mt ++ (add1 ++ r)))))) (by dsimp only [evL, bkL]; kqd_sub) ⟨⟨by k_ne, by k_ne, by k_ne⟩, off6⟩ (Or.inr ⟨_, by dsimp only [evL, bkL]; k_mem, rfl, _, rfl⟩) ⟨(D7, o7) :: add, rfl, ?_⟩
    rw [ef, if_pos (by simpa using ‹_ = (1 : Int)›), List.map_append, List.map_append]
    refine (hys.mono fun p hp => .tail _ hp).append (.one ?_)
    rw [ho7]
    exact .tuple (.head _) (.cons (.int _ _) (.cons (.str _ _) .nil))
   ·refine LCg.CompEnd.intro (by assumption) N7 (add ++ ((D4, listOf vs2.toArray c2) :: evL w.params ev ed lg c a ((c.er, listOf es.toArray ne) :: bkL bk C (mt ++ (add1 ++ r))))) (by dsimp only [evL, bkL]; kqd_sub) off6 (Or.inr ⟨_, by dsimp only [evL, bkL]; k_mem, rfl, _, rfl⟩) ⟨add, rfl, ?_⟩
    rw [ef, if_neg (by simpa using ‹_ ≠ (1 : Int)›), List.append_nil]
    exact hys
  ·intro ys3 nw
   (km_mul add3; k_extra "st"; k_extra "sr"; intro hys3)
   f_tup
   rw [show C.rv.toArray.size = rows.length by rw [List.size_toArray, hlr], List.take_length, ← z8] at hys3
   have okq : ∀ d ∈ a.q.map tD, kqdOk 8 d = true := fun d hd => by
    f_tup
    (refine arr ?_ (List.mem_map.mp hd); km_mul t; km_mul ht; k_extra "sr")
    exact tD_ok (names_ok _ (wf.nq t ht))
   have oki : ∀ d ∈ a.i.map iD, kqdOk 8 d = true := fun d hd => by
    f_tup
    (refine arr ?_ (List.mem_map.mp hd); km_mul t; km_mul ht; k_extra "sr")
    exact iD_ok (names_ok _ (wf.ni t ht))
   have oks : ∀ d ∈ errs.map Dat.str, kqdOk 8 d = true := fun d hd => by
    f_tup
    (refine arr ?_ (List.mem_map.mp hd); km_mul t; km_mul ht; k_extra "sr")
    exact oke t ht
   clear N4 F9
   unfold LCg.FinA
   intro D3' h3 tk3 F3 N3 o3
   replace o3 := OffA.of1 o3
   simp only [OffA, offA_append, and_true, List.cons_append, List.nil_append] at o3
   (repeat (have o3a := And.left o3; replace o3 := And.right o3))
   try simp only [List.nil_append, List.cons_append] at N3
   dsimp only [evL, bkL] at N3
   try dsimp only
   f_tup
   k_steps
   refine Stop.mk ?_
   f_tup
   rename News _ _ _ _ => N9
   rename Fr _ _ _ _ => F9
   refine kqd_neS N9 (by k_mem) rfl rfl G (by kqd_sub) (by k_mem) rfl rfl hD2 (by kqd_sub) okq okq (by ke_room) rfl ?_
   try dsimp only
   f_tup
   k_steps
   refine Stop.mk ?_
   f_tup
   refine kqd_neS N9 (by k_mem) rfl rfl G2 (by kqd_sub) (by k_mem) rfl rfl hys3 (by kqd_sub) oki oki (by ke_room) rfl ?_
   try dsimp only
   f_tup
   k_steps
   refine Stop.mk ?_
   f_tup
   refine kqd_neS N9 (by k_mem) rfl rfl hes (by kqd_sub) (by k_mem) rfl rfl D2 (by kqd_sub) oks oks (by ke_room) rfl ?_
   try dsimp only
   f_tup
   k_steps
   all_goals first
    |(rename a.num ≠ _ => hne9; exact absurd rfl hne9)
    |(rename a.now ≠ _ => hne9; exact absurd rfl hne9)
    |skip
   refine Stop.mk ?_
   f_tup
   refine kqd_eqS N9 (by k_mem) rfl rfl G3 (by kqd_sub) (by k_mem) rfl rfl D3 (by kqd_sub) okl okl (by ke_room) rfl ?_
   try dsimp only
   f_tup
   k_steps
   rename News h₀ _ _ _ => N8
   rename Fr h₀ _ _ _ => F8
   refine hret _ _ _ _ F8 (fun p hp => N8 p ?_) ⟨rfl, rfl⟩
   revert p hp
   try dsimp only [evL, bkL]
   kqd_sub
 ) ?_
 intro q f
 simpa using f (default : (by exact Fin 1))
theorem ok9 : ∀ y, P9 y := Classical.choose_spec ex9 (by with_unfolding_all exact core9)
end law_same1_h
theorem law_same1_does {prog : Program} {w : World} {mean : ExcName → Option Value} {mg mb : Str → Option Value} {mt r : Led} {ev ed lg bk ne j : Nat} {c : EvC} {a : EvS} {es : List Value} {errs : List Str} {C : BkC} {rows : List Row}
  (Z : Rel a errs (⟨a.now, a.num, rows, errs, a.log⟩ : Bk)) (ok : OkL a errs) (wf : WfA j a) (hj : j ≤ 20) (hl : errs.length ≤ a.log.length) (R : EvRep r c a) (K : BkRep prog w r C (⟨a.now, a.num, rows, errs, a.log⟩ : Bk)) (hes : DatAll [] es (errs.map Dat.str)) :
  Does prog w mean mg mb 619 [.ref ev, .ref lg, .ref bk] 4 100 (evL w.params ev ed lg c a ((c.er, listOf es.toArray ne) :: bkL bk C (mt ++ r)))
   (fun v l => v = .bool true ∧ l = evL w.params ev ed lg c a ((c.er, listOf es.toArray ne) :: bkL bk C (mt ++ r))) := by
 intros dp un gd cn cs a' ccd cl outer A₀ base h₀ L m s Q E
 exact law_same1_h.ok9 (prog, w, mean, mg, mb, mt, r, ev, ed, lg, bk, ne, j, c, a, es, errs, C, rows, (dp, un, gd, cn, cs, a', ccd, cl, outer, A₀, base, h₀, L, m, s, Q, E)) Z ok wf hj hl R K hes
theorem law_same_does {prog : Program} {w : World} {mean : ExcName → Option Value} {mg mb : Str → Option Value} {mt r : Led} {ev ed lg bk ne j : Nat} {c : EvC} {a : EvS} {es : List Value} {errs : List Str} {C : BkC} {B : Bk}
  (Z : Rel a errs B) (ok : OkL a errs) (wf : WfA j a) (hj : j ≤ 20) (hl : errs.length ≤ a.log.length) (R : EvRep r c a) (K : BkRep prog w r C B) (hes : DatAll [] es (errs.map Dat.str)) :
  Does prog w mean mg mb 619 [.ref ev, .ref lg, .ref bk] 4 100 (evL w.params ev ed lg c a ((c.er, listOf es.toArray ne) :: bkL bk C (mt ++ r)))
   (fun v l => v = .bool true ∧ l = evL w.params ev ed lg c a ((c.er, listOf es.toArray ne) :: bkL bk C (mt ++ r))) := by
 obtain ⟨Bn, Bc, rows, Be, Bl⟩ := B
 have z1 : Bn = a.now := Z.now
 have z2 : Bc = a.num := Z.num
 have z3 : Bl = a.log := Z.log
 have z4 : errs = Be := Z.errs.symm
 subst z1 z2 z3 z4
 exact law_same1_does Z ok wf hj hl R K hes

end
theorem In_F10.in_F10 : True := trivial
noncomputable section
open In_F10
theorem off_new {l add : Led} (h : Off (l.map (·.1)) add) : New l add := fun p hp q hq e => h p hp (e ▸ List.mem_map_of_mem hq)
theorem Sta.fix0 {ev ed lg er ho hdd : Addr} {c : EvC} {t : Led} (h : Sta ev ed lg er ho hdd c t) {oe oh od : Obj} : Fix ev ed lg ((ho, oh) :: (hdd, od) :: (er, oe) :: t) :=
 (h.fix (wd := ho) (ow := oh) (oe := oe) (oh := oh) (od := od) h.ne.1.2.2.2.1.symm h.ne.2.1.2.2.1.symm h.ne.2.2.1.2.1.symm).sub fun p hp => by simp only [List.map_cons]; exact List.mem_cons_of_mem _ (List.mem_map_of_mem (f := (·.1)) hp)
theorem Sta.loose0 {ev ed lg er ho hdd : Addr} {c : EvC} {t : Led} (h : Sta ev ed lg er ho hdd c t) {oe oh od : Obj} : Loose (fx ev ed lg ((ho, oh) :: (hdd, od) :: (er, oe) :: t)) c :=
 (h.loose (wd := ho) (ow := oh) (oe := oe) (oh := oh) (od := od) h.ne.2.2.2.2.1.2.1 h.ne.2.2.2.2.1.2.2).sub fun p hp => by simp only [fx, List.map_cons, List.mem_cons] at hp ⊢; grind
theorem Sta.next0 {ev ed lg er ho hdd : Addr} {c c' : EvC} {mt r add : Led} (h : Sta ev ed lg er ho hdd c (mt ++ r)) {oe oh od : Obj} (her : c'.er = c.er) (hO : Off (fx ev ed lg ((ho, oh) :: (hdd, od) :: (er, oe) :: (mt ++ r))) add)
  (hZ : Loose (add.map (·.1) ++ fx ev ed lg ((ho, oh) :: (hdd, od) :: (er, oe) :: (mt ++ r))) c') : Sta ev ed lg er ho hdd c' (mt ++ (add ++ r)) ∧ Off ((mt ++ r).map (·.1)) add :=
 h.next (wd := ho) (ow := oh) (oh := oh) (od := od) (oe := oe) her (hO.sub fun p hp => by simp only [fx, List.map_cons, List.mem_cons] at hp ⊢; grind) (hZ.sub fun p hp => by simp only [fx, List.map_cons, List.mem_cons, List.mem_append] at hp ⊢; grind)
theorem Sta.bk {ev ed lg er ho hdd bk : Addr} {c : EvC} {C : BkC} {t : Led} (S : Sta ev ed lg er ho hdd c (bkL bk C t)) (K : BkS bk C.rw C.er C.lg t) {q1 q2 q3 q4 q5 q6 q7 q8 : Obj} :
  BkS bk C.rw C.er C.lg ((ho, q1) :: (hdd, q2) :: (ev, q3) :: (ed, q4) :: (c.q, q5) :: (c.i, q6) :: (lg, q7) :: (c.er, q8) :: t) := by
 have e := S.ce
 have n1 := S.to (p := (bk, C.o)) (.head _)
 have n2 := S.to (p := (C.rw, listOf C.rv.toArray C.rn)) (.tail _ (.head _))
 have n3 := S.to (p := (C.er, listOf C.ev.toArray C.en)) (.tail _ (.tail _ (.head _)))
 have n4 := S.to (p := (C.lg, listOf C.lv.toArray C.ln)) (.tail _ (.tail _ (.tail _ (.head _))))
 dsimp only at n1 n2 n3 n4
 refine ⟨K.nd, fun p hp => ?_⟩
 simp only [List.mem_cons] at hp
 have k := K.off p
 simp only [List.mem_cons, List.not_mem_nil, or_false, not_or] at k ⊢
 grind
theorem Sta.booked {ev ed lg er ho hdd bk : Addr} {c : EvC} {C C' : BkC} {mt r add : Led} (S : Sta ev ed lg er ho hdd c (bkL bk C (mt ++ r))) (h1 : C'.rw = C.rw) (h2 : C'.er = C.er) (h3 : C'.lg = C.lg) {q1 q2 q3 q4 q5 q6 q7 q8 : Obj}
  (hn : New (bkL bk C (((ho, q1) :: (hdd, q2) :: (ev, q3) :: (ed, q4) :: (c.q, q5) :: (c.i, q6) :: (lg, q7) :: (c.er, q8) :: mt) ++ r)) add) : Sta ev ed lg er ho hdd c (bkL bk C' (mt ++ (add ++ r))) := by
 refine ⟨S.ce, S.nd, fun p hp => ?_⟩
 have e := S.ce
 simp only [bkL, List.mem_cons, List.mem_append] at hp
 rcases hp with rfl | rfl | rfl | rfl | hp | hp | hp
 ·exact S.off (bk, C.o) (.head _)
 ·dsimp only; rw [h1]; exact S.off (C.rw, listOf C.rv.toArray C.rn) (.tail _ (.head _))
 ·dsimp only; rw [h2]; exact S.off (C.er, listOf C.ev.toArray C.en) (.tail _ (.tail _ (.head _)))
 ·dsimp only; rw [h3]; exact S.off (C.lg, listOf C.lv.toArray C.ln) (.tail _ (.tail _ (.tail _ (.head _))))
 ·exact S.off p (.tail _ (.tail _ (.tail _ (.tail _ (List.mem_append_left _ hp)))))
 ·have n := hn p hp
  simp only [List.mem_cons, List.not_mem_nil, or_false, not_or]
  have a1 := n (ho, q1) (by simp [bkL])
  have a2 := n (hdd, q2) (by simp [bkL])
  have a3 := n (ev, q3) (by simp [bkL])
  have a4 := n (ed, q4) (by simp [bkL])
  have a5 := n (c.q, q5) (by simp [bkL])
  have a6 := n (c.i, q6) (by simp [bkL])
  have a7 := n (lg, q7) (by simp [bkL])
  have a8 := n (c.er, q8) (by simp [bkL])
  dsimp only at a1 a2 a3 a4 a5 a6 a7 a8
  grind
 ·exact S.off p (.tail _ (.tail _ (.tail _ (.tail _ (List.mem_append_right _ hp)))))
theorem WfG.mono {L G P L' G' P' : Nat} {M M' : Int} {a : EvS} (h : WfG L M G P a) (h1 : L ≤ L') (h2 : M ≤ M') (h3 : G ≤ G') (h4 : P ≤ P') : WfG L' M' G' P' a :=
 ⟨h.nd, h.lo, h.n0, h.nq, h.ni, by have := h.len; w_how, by have := h.num; w_how, by have := h.log; w_how, by have := h.pt; w_how⟩
theorem WfA.mono {j j' : Nat} {a : EvS} (h : WfA j a) (hj : j ≤ j') : WfA j' a := WfG.mono h (by w_how) (by w_how) (by w_how) (by w_how)
structure Turned (j : Nat) (a : EvS) (errs : List Str) (B : Bk) : Prop where
 rel : Rel a errs B
 ok : OkL a errs
 wf : WfA j a
 len : errs.length ≤ a.log.length
theorem Turned.mono {j j' : Nat} {a : EvS} {errs : List Str} {B : Bk} (h : Turned j a errs B) (hj : j ≤ j') : Turned j' a errs B := ⟨h.rel, h.ok, h.wf.mono hj, h.len⟩
noncomputable def Bo (prog : Program) (w : World) (ev ed lg er ho hdd bk : Addr) (hc : HoC) (mt r : Led) (a : EvS) (errs : List Str) (B : Bk) (l : Led) : Prop :=
 ∃ c es ne dt spent st C, c.er = er ∧ Sta ev ed lg er ho hdd c (bkL bk C (mt ++ r)) ∧ EvRep r c a ∧ DatAll [] es (errs.map Dat.str) ∧ BkS bk C.rw C.er C.lg (mt ++ r) ∧ BkRep prog w r C B ∧ l = wL w.params ev ed lg ho hdd hc dt spent st c a es ne (bkL bk C (mt ++ r))
theorem wrd_F10_1 : True := by
 k_with "my call ref" => ((fail_if_success (fail_if_success (have h9 := in_F10))); (((have halt9 := (by assumption : HaltS)); refine Stop.out ?_)))
 trivial
namespace law_turn1_h
noncomputable abbrev T9 : Type := Program × World × (ExcName → Option Value) × (Str → Option Value) × (Str → Option Value) × Led × Led × Nat × Nat × Nat × Nat × Nat × Nat × Nat × Nat × Nat × Nat × Nat × EvC × List Value × Tok × Tok × Int × BkC × HoC × EvS × List Str × Bk × (Str → List Act) × Int × Int × Str × Tok × Tok × Tok × Cx
noncomputable def S9 (prog : Program) (w : World) (mean : ExcName → Option Value) (mg : Str → Option Value) (mb : Str → Option Value) (mt : Led) (r : Led) (ev : Nat) (ed : Nat) (lg : Nat) (ho : Nat) (hdd : Nat) (bk : Nat) (rd : Nat) (ac : Nat) (na : Nat) (j : Nat) (ne : Nat) (c : EvC) (es : List Value) (dt : Tok) (st : Tok) (spent : Int) (C : BkC) (hc : HoC) (a : EvS) (errs : List Str) (B : Bk) (acts : Str → List Act) (k : Int) (wt : Int) (x : Str) (t1 : Tok) (t2 : Tok) (t3 : Tok) (x9 : Cx) : Prop :=
 ∀ (Cm : Cmds prog w ev lg hc acts r) (ok : ∀ nm ∈ sNames, ActsOk (wtN nm) (acts nm)) (W : Rws prog w rd acts r) (S : Sta ev ed lg c.er ho hdd c (bkL bk C (mt ++ r))) (R : EvRep r c a) (hes : DatAll [] es (errs.map Dat.str)) (K : BkS bk C.rw C.er C.lg (mt ++ r)) (KR : BkRep prog w r C B) (t : Turned j a errs B) (hj : j + 1 ≤ 20) (hac : (ac, tupO [.int k t1, .int wt t2, .str x t3] na) ∈ r) (hk0 : 0 ≤ k) (hx : isAdd (k, wt, x) = true → x ∈ sNames), DoesX.at prog w mean mg mb 626 [.ref ho, .ref ev, .ref lg, .ref bk, .ref rd, .ref ac] 28 260 (wL w.params ev ed lg ho hdd hc dt spent st c a es ne (bkL bk C (mt ++ r)))
   (fun v l => v = .bool true ∧ ∃ a' errs' B' add, Turned (if k < 5 then j + 1 else j) a' errs' B' ∧ Bo prog w ev ed lg c.er ho hdd bk hc mt (add ++ r) a' errs' B' l ∧ (5 ≤ k → wt = 1 → B.rows ≠ [] → pot a' < pot a) ∧ ∀ p ∈ add, ∀ q ∈ mt, q.1 ≠ p.1) (fun _ _ => False) x9.1 x9.2.1 x9.2.2.1 x9.2.2.2.1 x9.2.2.2.2.1 x9.2.2.2.2.2.1 x9.2.2.2.2.2.2.1 x9.2.2.2.2.2.2.2.2.1 x9.2.2.2.2.2.2.2.2.2.1 x9.2.2.2.2.2.2.2.2.2.2.1 x9.2.2.2.2.2.2.2.2.2.2.2.1 x9.2.2.2.2.2.2.2.2.2.2.2.2.1 x9.2.2.2.2.2.2.2.2.2.2.2.2.2.1 x9.2.2.2.2.2.2.2.2.2.2.2.2.2.2.1 x9.2.2.2.2.2.2.2.2.2.2.2.2.2.2.2.1 x9.2.2.2.2.2.2.2.2.2.2.2.2.2.2.2.2
noncomputable def P9 : T9 → Prop := cur fun prog => cur fun w => cur fun mean => cur fun mg => cur fun mb => cur fun mt => cur fun r => cur fun ev => cur fun ed => cur fun lg => cur fun ho => cur fun hdd => cur fun bk => cur fun rd => cur fun ac => cur fun na => cur fun j => cur fun ne => cur fun c => cur fun es => cur fun dt => cur fun st => cur fun spent => cur fun C => cur fun hc => cur fun a => cur fun errs => cur fun B => cur fun acts => cur fun k => cur fun wt => cur fun x => cur fun t1 => cur fun t2 => cur fun t3 => fun x9 => S9 prog w mean mg mb mt r ev ed lg ho hdd bk rd ac na j ne c es dt st spent C hc a errs B acts k wt x t1 t2 t3 x9
theorem ex9 : ∃ x, P9 x → ∀ y, P9 y := drinker P9 (PySem.Challenge.rw_np0139_01.prog, w0, default, default, default, default, default, default, default, default, default, default, default, default, default, default, default, default, (⟨0, 0, 0, fun _ => 0, 0, 0, 0, 0, 0, [], [], []⟩ : EvC), default, default, default, default, (⟨0, 0, 0, default, 0, 0, [], [], [], 0, 0, 0⟩ : BkC), (⟨fun _ => 0, 0, 0, 0, 0, 0, 0, 0⟩ : HoC), (⟨0, 0, [], [], []⟩ : EvS), default, (⟨0, 0, [], [], []⟩ : Bk), default, default, default, default, default, default, default, cx0)
@[irreducible] def c9 : T9 := Classical.choose ex9
@[irreducible] def prog := c9.1
@[irreducible] def w := c9.2.1
@[irreducible] def mean := c9.2.2.1
@[irreducible] def mg := c9.2.2.2.1
@[irreducible] def mb := c9.2.2.2.2.1
@[irreducible] def mt := c9.2.2.2.2.2.1
@[irreducible] def r := c9.2.2.2.2.2.2.1
@[irreducible] def ev := c9.2.2.2.2.2.2.2.1
@[irreducible] def ed := c9.2.2.2.2.2.2.2.2.1
@[irreducible] def lg := c9.2.2.2.2.2.2.2.2.2.1
@[irreducible] def ho := c9.2.2.2.2.2.2.2.2.2.2.1
@[irreducible] def hdd := c9.2.2.2.2.2.2.2.2.2.2.2.1
@[irreducible] def bk := c9.2.2.2.2.2.2.2.2.2.2.2.2.1
@[irreducible] def rd := c9.2.2.2.2.2.2.2.2.2.2.2.2.2.1
@[irreducible] def ac := c9.2.2.2.2.2.2.2.2.2.2.2.2.2.2.1
@[irreducible] def na := c9.2.2.2.2.2.2.2.2.2.2.2.2.2.2.2.1
@[irreducible] def j := c9.2.2.2.2.2.2.2.2.2.2.2.2.2.2.2.2.1
@[irreducible] def ne := c9.2.2.2.2.2.2.2.2.2.2.2.2.2.2.2.2.2.1
@[irreducible] def c := c9.2.2.2.2.2.2.2.2.2.2.2.2.2.2.2.2.2.2.1
@[irreducible] def es := c9.2.2.2.2.2.2.2.2.2.2.2.2.2.2.2.2.2.2.2.1
@[irreducible] def dt := c9.2.2.2.2.2.2.2.2.2.2.2.2.2.2.2.2.2.2.2.2.1
@[irreducible] def st := c9.2.2.2.2.2.2.2.2.2.2.2.2.2.2.2.2.2.2.2.2.2.1
@[irreducible] def spent := c9.2.2.2.2.2.2.2.2.2.2.2.2.2.2.2.2.2.2.2.2.2.2.1
@[irreducible] def C := c9.2.2.2.2.2.2.2.2.2.2.2.2.2.2.2.2.2.2.2.2.2.2.2.1
@[irreducible] def hc := c9.2.2.2.2.2.2.2.2.2.2.2.2.2.2.2.2.2.2.2.2.2.2.2.2.1
@[irreducible] def a := c9.2.2.2.2.2.2.2.2.2.2.2.2.2.2.2.2.2.2.2.2.2.2.2.2.2.1
@[irreducible] def errs := c9.2.2.2.2.2.2.2.2.2.2.2.2.2.2.2.2.2.2.2.2.2.2.2.2.2.2.1
@[irreducible] def B := c9.2.2.2.2.2.2.2.2.2.2.2.2.2.2.2.2.2.2.2.2.2.2.2.2.2.2.2.1
@[irreducible] def acts := c9.2.2.2.2.2.2.2.2.2.2.2.2.2.2.2.2.2.2.2.2.2.2.2.2.2.2.2.2.1
@[irreducible] def k := c9.2.2.2.2.2.2.2.2.2.2.2.2.2.2.2.2.2.2.2.2.2.2.2.2.2.2.2.2.2.1
@[irreducible] def wt := c9.2.2.2.2.2.2.2.2.2.2.2.2.2.2.2.2.2.2.2.2.2.2.2.2.2.2.2.2.2.2.1
@[irreducible] def x := c9.2.2.2.2.2.2.2.2.2.2.2.2.2.2.2.2.2.2.2.2.2.2.2.2.2.2.2.2.2.2.2.1
@[irreducible] def t1 := c9.2.2.2.2.2.2.2.2.2.2.2.2.2.2.2.2.2.2.2.2.2.2.2.2.2.2.2.2.2.2.2.2.1
@[irreducible] def t2 := c9.2.2.2.2.2.2.2.2.2.2.2.2.2.2.2.2.2.2.2.2.2.2.2.2.2.2.2.2.2.2.2.2.2.1
@[irreducible] def t3 := c9.2.2.2.2.2.2.2.2.2.2.2.2.2.2.2.2.2.2.2.2.2.2.2.2.2.2.2.2.2.2.2.2.2.2.1
@[irreducible] def x9 := c9.2.2.2.2.2.2.2.2.2.2.2.2.2.2.2.2.2.2.2.2.2.2.2.2.2.2.2.2.2.2.2.2.2.2.2
abbrev h₀ := x9.2.2.2.2.2.2.2.2.2.2.2.1
theorem core9 : S9 prog w mean mg mb mt r ev ed lg ho hdd bk rd ac na j ne c es dt st spent C hc a errs B acts k wt x t1 t2 t3 x9 := by
 refine wr_z (by
 intro Cm ok W S R hes K KR t hj hac hk0 hx B9 F XB TB DK N hk hdp hu hret hexc
 have X : (K9 w.params).In h₀ := XB.keeps B9.stays
 have T : Top view9 lse mean mg mb h₀ := TB.keeps B9.stays
 have wfK := t.rel.wfK t.wf t.len
 have wfE : EvB a 10 := t.wf.ten (by w_how) (by w_how) (by w_how)
 simp only [wL, hoL, evL, bkL] at N
 refine wpAny_call ?_
 k_dflt walk_at "enterX"
 have halt : HaltS := trivial
 f_tup
 k_steps
 ·refine Stop.mk ?_
  f_tup
  rename k < 5 => hk5
  rename Fr _ _ _ _ => F9
  rename News _ _ _ _ => N9
  have k1 := law_done2 (prog := prog) (w := w) (mean := mean) (mg := mg) (mb := mb) (mt := (ho, instObj 534 hdd) :: (hdd, dictOf (hoD w.params hc 0 dt spent st) 12) :: (c.er, listOf es.toArray ne) :: (bk, C.o) :: (C.rw, listOf C.rv.toArray C.rn) :: (C.er, listOf C.ev.toArray C.en) :: (C.lg, listOf C.lv.toArray C.ln) :: mt) (r := r) (n := 9) (k := k) (wt := wt) (x := x) S.fix0 S.loose0 R wfE (List.mem_append_right _ hac)
  refine Does.use (by k_asm) F9 (by k_asm) (by k_asm) (fun p hp => N9 p (by revert p hp; dsimp only [evL, List.cons_append, List.nil_append]; kqd_sub)) rfl k1 (by ktr_room) (by ktr_units) ?_
  clear N9 F9
  intro v9 h9 tk9 news9 F9 N9
  (km_mul add; km_mul c'; km_mul b; k_extra "st"; k_extra "sr"; km_mul hD; km_mul hEb; km_mul hRb; km_mul hOff; km_mul hZ; km_mul her; k_extra "sr")
  f_tup
  f_tup
  (refine arr ?_ (S.next0 her hOff hZ); km_mul S2; intro hOff2)
  dsimp only [evL, List.cons_append, List.nil_append] at N9
  have hsub2 : ∀ p ∈ r, p ∈ add ++ r := fun p hp => List.mem_append_right _ hp
  have K2 : BkS bk C.rw C.er C.lg (mt ++ (add ++ r)) := K.more (off_new hOff2)
  have KR2 := KR.mono hsub2
  have K3 := S2.bk (q1 := instObj 534 hdd) (q2 := dictOf (hoD w.params hc 0 dt spent st) 12) (q3 := instObj 265 ed) (q4 := dictOf (evD w.params c'.k b.now c'.tn c'.q c'.i c'.er b.num c'.tm) 5) (q5 := listOf c'.qs.toArray c'.nq) (q6 := listOf c'.is.toArray c'.ni) (q7 := listOf c'.ls.toArray c'.nl) (q8 := listOf es.toArray ne) K2
  f_tup
  k_steps
  refine Stop.mk ?_
  f_tup
  rename News _ _ _ _ => N8
  rename Fr _ _ _ _ => F8
  have k2 := law_own_does (prog := prog) (w := w) (mean := mean) (mg := mg) (mb := mb) (mt := (ho, instObj 534 hdd) :: (hdd, dictOf (hoD w.params hc 0 dt spent st) 12) :: (ev, instObj 265 ed) :: (ed, dictOf (evD w.params c'.k b.now c'.tn c'.q c'.i c'.er b.num c'.tm) 5) :: (c'.q, listOf c'.qs.toArray c'.nq) :: (c'.i, listOf c'.is.toArray c'.ni) :: (lg, listOf c'.ls.toArray c'.nl) :: (c'.er, listOf es.toArray ne) :: mt)
   (r := add ++ r) (n := 8) (k := k) (wt := wt) (x := x) K3 KR2 (wfK.bkB (by w_how) (by w_how) (by w_how)) (List.mem_append_right _ (hsub2 _ hac))
  refine Does.use (by k_asm) F8 (by k_asm) (by k_asm) (fun p hp => N8 p (by revert p hp; rw [her]; dsimp only [bkL, List.cons_append, List.nil_append]; kqd_sub)) rfl k2 (by ktr_room) (by ktr_units) ?_
  clear N8 F8
  intro v7 h7 tk7 news7 F7 N7
  (k_extra "st"; k_extra "sr"; km_mul add2; km_mul C2; km_mul hB2; km_mul e1; km_mul e2; km_mul e3; km_mul hN2; k_extra "sr")
  f_tup
  have S3 := S2.booked e1 e2 e3 hN2
  f_tup
  (refine arr ?_ (deed_rel hD t.rel t.wf hx (by w_how) hk0 t.len); km_mul d1; km_mul d2; intro d3)
  have T9 : Turned (j + 1) b errs (bkOwn B k wt x) := ⟨d1, done_ok hD t.ok, d2, d3⟩
  have hsub3 : ∀ p ∈ add ++ r, p ∈ add2 ++ (add ++ r) := fun p hp => List.mem_append_right _ hp
  have R3 : EvRep (add2 ++ (add ++ r)) c' b := ⟨hRb.q.mono hsub3, hRb.i.mono hsub3, hRb.l.mono hsub3⟩
  have K4 : BkS bk C2.rw C2.er C2.lg (mt ++ (add2 ++ (add ++ r))) := (BkS.more (K2) (fun p hp q hq => hN2 p hp q (by revert q; dsimp only [bkL, List.cons_append, List.nil_append]; kqd_sub))).as e1 e2 e3
  dsimp only [bkL, List.cons_append, List.nil_append] at N7
  f_tup
  k_steps
  refine Stop.mk ?_
  f_tup
  rename News _ _ _ _ => N8
  rename Fr _ _ _ _ => F8
  refine Does.use (by k_asm) F8 (by k_asm) (by k_asm) (fun p hp => N8 p (by revert p hp; dsimp only [evL, bkL, List.cons_append, List.nil_append]; kqd_sub)) rfl (law_same_does (prog := prog) (w := w) (mean := mean) (mg := mg) (mb := mb) (j := j + 1) (ne := ne) (ed := ed) (mt := (ho, instObj 534 hdd) :: (hdd, dictOf (hoD w.params hc 0 dt spent st) 12) :: mt) (r := add2 ++ (add ++ r)) (c := c') (C := C2) T9.rel T9.ok T9.wf (by w_how) T9.len R3 hB2 hes) (by ktr_room) (by ktr_units) ?_
  clear N8 F8
  intro v6 h6 tk6 news6 F6 N6
  (k_extra "st"; k_extra "sr"; k_extra "sr")
  f_tup
  f_tup
  k_steps
  rename News h₀ _ _ _ => N5
  rename Fr h₀ _ _ _ => F5
  refine hret h₀ _ _ _ (wL w.params ev ed lg ho hdd hc dt spent st c' b es ne (bkL bk C2 (mt ++ (add2 ++ (add ++ r))))) KtsTurn.refl F5 (fun p hp => N5 p ?_) B9 X T DK ⟨rfl, b, errs, _, add2 ++ add, (by rw [if_pos hk5]; exact T9), (by rw [List.append_assoc]; exact ⟨c', es, ne, dt, spent, st, C2, her, S3, R3, hes, K4, hB2, rfl⟩), fun h => absurd hk5 (by w_how), fun p hp q hq => ?_⟩
  rotate_left
  ·rcases List.mem_append.mp hp with hp | hp
   ·exact hN2 p hp q (by simp [bkL, hq])
   ·exact off_new hOff2 p hp q (by simp [bkL, hq])
  revert p hp
  dsimp only [wL, hoL, evL, bkL, List.cons_append, List.nil_append]
  kqd_sub
 ·refine Stop.mk ?_
  f_tup
  rename ¬ k < 5 => hk5
  rename Fr _ _ _ _ => F9
  rename News _ _ _ _ => N9
  have K1 := S.bk (q1 := instObj 534 hdd) (q2 := dictOf (hoD w.params hc 0 dt spent st) 12) (q3 := instObj 265 ed) (q4 := dictOf (evD w.params c.k a.now c.tn c.q c.i c.er a.num c.tm) 5) (q5 := listOf c.qs.toArray c.nq) (q6 := listOf c.is.toArray c.ni) (q7 := listOf c.ls.toArray c.nl) (q8 := listOf es.toArray ne) K
  have k1 := law_own_step_does (prog := prog) (w := w) (mean := mean) (mg := mg) (mb := mb) (wt := wt == 1) (mt := (ho, instObj 534 hdd) :: (hdd, dictOf (hoD w.params hc 0 dt spent st) 12) :: (ev, instObj 265 ed) :: (ed, dictOf (evD w.params c.k a.now c.tn c.q c.i c.er a.num c.tm) 5) :: (c.q, listOf c.qs.toArray c.nq) :: (c.i, listOf c.is.toArray c.ni) :: (lg, listOf c.ls.toArray c.nl) :: (c.er, listOf es.toArray ne) :: mt)
   (r := r) (j := j) K1 KR wfK (by w_how) ok W
  refine Does.use (by k_asm) F9 (by k_asm) (by k_asm) (fun p hp => N9 p (by revert p hp; dsimp only [bkL, List.cons_append, List.nil_append]; kqd_sub)) rfl k1 (by ktr_room) (by ktr_units) ?_
  clear N9 F9
  intro v9 h9 tk9 news9 F9 N9
  (km_mul ret; km_mul B2; km_mul add; km_mul C2; k_extra "st"; k_extra "sr"; km_mul hB2; km_mul KR2; km_mul e1; km_mul e2; km_mul e3; km_mul hN2; k_extra "sr")
  f_tup
  have S2 := S.booked e1 e2 e3 hN2
  have hsub2 : ∀ p ∈ r, p ∈ add ++ r := fun p hp => List.mem_append_right _ hp
  have R2 : EvRep (add ++ r) c a := ⟨R.q.mono hsub2, R.i.mono hsub2, R.l.mono hsub2⟩
  have K4 : BkS bk C2.rw C2.er C2.lg (mt ++ (add ++ r)) := (BkS.more K (fun p hp q hq => hN2 p hp q (by revert q; dsimp only [bkL, List.cons_append, List.nil_append]; kqd_sub))).as e1 e2 e3
  dsimp only [bkL, List.cons_append, List.nil_append] at N9
  f_tup
  k_steps
  refine Stop.mk ?_
  f_tup
  rename News _ _ _ _ => N8
  rename Fr _ _ _ _ => F8
  have k2 := step_does (prog := prog) (w := w) (mean := mean) (mg := mg) (mb := mb) (wt := wt == 1) (dt := dt) (st := st) (spent := spent) (ne := ne) (mt := (bk, C2.o) :: (C2.rw, listOf C2.rv.toArray C2.rn) :: (C2.er, listOf C2.ev.toArray C2.en) :: (C2.lg, listOf C2.lv.toArray C2.ln) :: mt) (r := add ++ r) (j := j) (Cm.mono hsub2) ok S2 R2 t.wf (by w_how) hes t.len
  refine DoesX.use (by k_asm) F8 XB TB (by k_asm) (fun p hp => N8 p (by revert p hp; dsimp only [wL, hoL, evL, bkL, List.cons_append, List.nil_append]; kqd_sub)) rfl k2 (by ktr_room) (by ktr_units) ?_ ?_
  ·intro g2 v h2 tk2 news2 t2 F2 N2 K2 X2 T2 D9
   (km_mul ret2; km_mul b; km_mul errs'; km_mul add2; k_extra "st"; k_extra "sr"; km_mul hR; km_mul c3; km_mul es3; km_mul ne3; km_mul dt3; km_mul spent3; km_mul st3; km_mul R3; km_mul S3; km_mul hOff; km_mul hes3; k_extra "sr")
   f_tup
   clear F8 N8
   f_tup
   (refine arr ?_ (step_rel ok (by w_how) t.rel t.wf t.len hR hB2); k_extra "st"; k_extra "sr"; km_mul d1; km_mul d2; km_mul d3; intro d4)
   have T9 : Turned j b errs' B2 := ⟨d1, step_ok ok (by w_how) t.wf t.ok hR, d2, d3⟩
   have hsub3 : ∀ p ∈ add ++ r, p ∈ add2 ++ (add ++ r) := fun p hp => List.mem_append_right _ hp
   have KR3 := KR2.mono hsub3
   have K5 : BkS bk C2.rw C2.er C2.lg (mt ++ (add2 ++ (add ++ r))) := K4.more (off_new hOff)
   have T8 : Turned (if k < 5 then j + 1 else j) b errs' B2 := by rw [if_neg hk5]; exact T9
   have d5 : 5 ≤ k → wt = 1 → B.rows ≠ [] → pot b < pot a := fun _ h => d4 (by rw [h]; rfl)
   clear k1 k2
   dsimp only [wL, hoL, evL, bkL, List.cons_append, List.nil_append] at N2
   cases ret2
   all_goals
    f_tup
    k_steps
    refine Stop.mk ?_
    f_tup
    rename News _ _ _ _ => N8
    rename Fr _ _ _ _ => F8
    refine Does.use (by k_asm) F8 (by k_asm) (by k_asm) (fun p hp => N8 p (by revert p hp; dsimp only [evL, bkL, List.cons_append, List.nil_append]; kqd_sub)) rfl (law_same_does (prog := prog) (w := w) (mean := mean) (mg := mg) (mb := mb) (j := j) (ne := ne3) (ed := ed) (mt := (ho, instObj 534 hdd) :: (hdd, dictOf (hoD w.params hc 0 dt3 spent3 st3) 12) :: mt) (r := add2 ++ (add ++ r)) (c := c3) (C := C2) T9.rel T9.ok T9.wf (by w_how) T9.len R3 KR3 hes3) (by ktr_room) (by ktr_units) ?_
    clear N8 F8
    intro v6 h6 tk6 news6 F6 N6
    (k_extra "st"; k_extra "sr"; k_extra "sr")
    f_tup
    f_tup
    k_steps
    rename News _ _ _ _ => N5
    refine hret _ _ _ _ (wL w.params ev ed lg ho hdd hc dt3 spent3 st3 c3 b es3 ne3 (bkL bk C2 (mt ++ (add2 ++ (add ++ r))))) (by assumption) (by assumption) (fun p hp => N5 p ?_) (by assumption) (by assumption) (by assumption) (by assumption) ⟨rfl, b, errs', B2, add2 ++ add, T8, (by rw [List.append_assoc]; exact ⟨c3, es3, ne3, dt3, spent3, st3, C2, S3.ce, S3.tok rfl rfl rfl, R3, hes3, K5, KR3, rfl⟩), d5, fun p hp q hq => ?_⟩
    rotate_left
    ·rcases List.mem_append.mp hp with hp | hp
     ·exact off_new hOff p hp q (by simp [hq])
     ·exact hN2 p hp q (by simp [bkL, hq])
    revert p hp
    dsimp only [wL, hoL, evL, bkL, List.cons_append, List.nil_append]
    kqd_sub
  ·intro _ _ _ _ _ _ _ _ _ _ _ _ h
   exact h.elim
 ) ?_
 intro q f
 simpa using f (default : (by exact Fin 1))
theorem ok9 : ∀ y, P9 y := Classical.choose_spec ex9 (by with_unfolding_all exact core9)
end law_turn1_h
theorem law_turn1_does {prog : Program} {w : World} {mean : ExcName → Option Value} {mg mb : Str → Option Value} {mt r : Led} {ev ed lg ho hdd bk rd ac na j ne : Nat} {c : EvC} {es : List Value} {dt st : Tok} {spent : Int} {C : BkC} {hc : HoC} {a : EvS} {errs : List Str} {B : Bk} {acts : Str → List Act} {k wt : Int} {x : Str} {t1 t2 t3 : Tok}
  (Cm : Cmds prog w ev lg hc acts r) (ok : ∀ nm ∈ sNames, ActsOk (wtN nm) (acts nm)) (W : Rws prog w rd acts r) (S : Sta ev ed lg c.er ho hdd c (bkL bk C (mt ++ r))) (R : EvRep r c a) (hes : DatAll [] es (errs.map Dat.str)) (K : BkS bk C.rw C.er C.lg (mt ++ r)) (KR : BkRep prog w r C B) (t : Turned j a errs B) (hj : j + 1 ≤ 20) (hac : (ac, tupO [.int k t1, .int wt t2, .str x t3] na) ∈ r) (hk0 : 0 ≤ k) (hx : isAdd (k, wt, x) = true → x ∈ sNames) :
  DoesX prog w mean mg mb 626 [.ref ho, .ref ev, .ref lg, .ref bk, .ref rd, .ref ac] 28 260 (wL w.params ev ed lg ho hdd hc dt spent st c a es ne (bkL bk C (mt ++ r)))
   (fun v l => v = .bool true ∧ ∃ a' errs' B' add, Turned (if k < 5 then j + 1 else j) a' errs' B' ∧ Bo prog w ev ed lg c.er ho hdd bk hc mt (add ++ r) a' errs' B' l ∧ (5 ≤ k → wt = 1 → B.rows ≠ [] → pot a' < pot a) ∧ ∀ p ∈ add, ∀ q ∈ mt, q.1 ≠ p.1) (fun _ _ => False) := by
 intros dp un gd cn cs a' ccd cl outer A₀ base h₀ L m s Q E B9 F9 XB9 TB9 D9 N9 k9 hcl9
 subst hcl9
 exact law_turn1_h.ok9 (prog, w, mean, mg, mb, mt, r, ev, ed, lg, ho, hdd, bk, rd, ac, na, j, ne, c, es, dt, st, spent, C, hc, a, errs, B, acts, k, wt, x, t1, t2, t3, (dp, un, gd, cn, cs, a', ccd, [], outer, A₀, base, h₀, L, m, s, Q, E)) Cm ok W S R hes K KR t hj hac hk0 hx B9 F9 XB9 TB9 D9 N9 k9
theorem law_turn_does {prog : Program} {w : World} {mean : ExcName → Option Value} {mg mb : Str → Option Value} {mt r l0 : Led} {ev ed lg er ho hdd bk rd ac na j : Nat} {hc : HoC} {a : EvS} {errs : List Str} {B : Bk} {acts : Str → List Act} {k wt : Int} {x : Str} {t1 t2 t3 : Tok}
  (Cm : Cmds prog w ev lg hc acts r) (ok : ∀ nm ∈ sNames, ActsOk (wtN nm) (acts nm)) (W : Rws prog w rd acts r) (Z : Bo prog w ev ed lg er ho hdd bk hc mt r a errs B l0) (t : Turned j a errs B) (hj : j + 1 ≤ 20) (hac : (ac, tupO [.int k t1, .int wt t2, .str x t3] na) ∈ r) (hk0 : 0 ≤ k) (hx : isAdd (k, wt, x) = true → x ∈ sNames) :
  DoesX prog w mean mg mb 626 [.ref ho, .ref ev, .ref lg, .ref bk, .ref rd, .ref ac] 28 260 l0
   (fun v l => v = .bool true ∧ ∃ a' errs' B' add, Turned (if k < 5 then j + 1 else j) a' errs' B' ∧ Bo prog w ev ed lg er ho hdd bk hc mt (add ++ r) a' errs' B' l ∧ (5 ≤ k → wt = 1 → B.rows ≠ [] → pot a' < pot a) ∧ ∀ p ∈ add, ∀ q ∈ mt, q.1 ≠ p.1) (fun _ _ => False) := by
 obtain ⟨c, es, ne, dt, spent, st, C, rfl, S, R, hes, K, KR, rfl⟩ := Z
 exact law_turn1_does Cm ok W S R hes K KR t hj hac hk0 hx

end
theorem In_F11.in_F11 : True := trivial
noncomputable section
open In_F11
noncomputable def tks (l : List Tok) : Nat → Tok := fun i => l.getD i 0
section
variable {h₀ h : Heap} {L : Addr} {p1 p2 p3 p4 p5 : Addr × Obj} {r : Led}
theorem led4h (N : News h₀ L h (p1 :: p2 :: p3 :: p4 :: r)) : News h₀ L h (p3 :: p4 :: p2 :: p1 :: r) := fun p hp => N p (by revert p hp; kqd_sub)
theorem led5h (N : News h₀ L h (p1 :: p2 :: p3 :: p4 :: p5 :: r)) : News h₀ L h (p4 :: p5 :: p3 :: p2 :: p1 :: r) := fun p hp => N p (by revert p hp; kqd_sub)
theorem led7h {p6 p7 : Addr × Obj} (N : News h₀ L h (p1 :: p2 :: p3 :: p4 :: p5 :: p6 :: p7 :: r)) : News h₀ L h (p4 :: p5 :: p6 :: p7 :: p3 :: p2 :: p1 :: r) := fun p hp => N p (by revert p hp; kqd_sub)
end
namespace events_make_h
noncomputable abbrev T9 : Type := Program × World × (ExcName → Option Value) × (Str → Option Value) × (Str → Option Value) × Led × Int × Tok × Cx
noncomputable def S9 (prog : Program) (w : World) (mean : ExcName → Option Value) (mg : Str → Option Value) (mb : Str → Option Value) (news : Led) (n : Int) (t : Tok) (x9 : Cx) : Prop :=
 Does.at prog w mean mg mb 265 [.int n t] 4 60 news (fun v l => ∃ (ev ed : Addr) (c : EvC), v = .ref ev ∧ [ev, ed, c.er, c.q, c.i].Nodup ∧ (∀ p ∈ news, p.1 ∉ [ev, ed, c.er, c.q, c.i]) ∧ c.qs = [] ∧ c.is = [] ∧ c.ls = [] ∧
   l = (ev, instObj 265 ed) :: (ed, dictOf (evD w.params c.k n c.tn c.q c.i c.er 0 c.tm) 5) :: (c.q, listOf c.qs.toArray c.nq) :: (c.i, listOf c.is.toArray c.ni) :: (c.er, listOf c.ls.toArray c.nl) :: news) x9.1 x9.2.1 x9.2.2.1 x9.2.2.2.1 x9.2.2.2.2.1 x9.2.2.2.2.2.1 x9.2.2.2.2.2.2.1 x9.2.2.2.2.2.2.2.1 x9.2.2.2.2.2.2.2.2.1 x9.2.2.2.2.2.2.2.2.2.1 x9.2.2.2.2.2.2.2.2.2.2.1 x9.2.2.2.2.2.2.2.2.2.2.2.1 x9.2.2.2.2.2.2.2.2.2.2.2.2.1 x9.2.2.2.2.2.2.2.2.2.2.2.2.2.1 x9.2.2.2.2.2.2.2.2.2.2.2.2.2.2.1 x9.2.2.2.2.2.2.2.2.2.2.2.2.2.2.2.1 x9.2.2.2.2.2.2.2.2.2.2.2.2.2.2.2.2
noncomputable def P9 : T9 → Prop := cur fun prog => cur fun w => cur fun mean => cur fun mg => cur fun mb => cur fun news => cur fun n => cur fun t => fun x9 => S9 prog w mean mg mb news n t x9
theorem ex9 : ∃ x, P9 x → ∀ y, P9 y := drinker P9 (PySem.Challenge.rw_np0139_01.prog, w0, default, default, default, default, default, default, cx0)
@[irreducible] def c9 : T9 := Classical.choose ex9
@[irreducible] def prog := c9.1
@[irreducible] def w := c9.2.1
@[irreducible] def mean := c9.2.2.1
@[irreducible] def mg := c9.2.2.2.1
@[irreducible] def mb := c9.2.2.2.2.1
@[irreducible] def news := c9.2.2.2.2.2.1
@[irreducible] def n := c9.2.2.2.2.2.2.1
@[irreducible] def t := c9.2.2.2.2.2.2.2.1
@[irreducible] def x9 := c9.2.2.2.2.2.2.2.2
abbrev h₀ := x9.2.2.2.2.2.2.2.2.2.2.2.1
theorem core9 : S9 prog w mean mg mb news n t x9 := by
 refine wr_z (by
 intro B F X T N hk hdp hu hret
 refine' call_cls ?ck1 ?ck2 ?ck3 ?ck4 ?ck5 ?ck6 ?_
 case ck1 => k_asm
 case ck2 => k_asm
 case ck3 => k_asm
 case ck4 => k_is
 case ck5 => k_is
 case ck6 => k_is
 intro ho hdd h1 F1 N1 l1 l2
 k_lt l1
 try k_lt2 l2
 have l3 : ∀ p ∈ news, @LT.lt Nat _ p.1 ho := fun p hp => Nat.lt_trans (l1 p hp) l2
 k_dflt ktr_enter
 f_tup
 k_steps
 rename News h₀ _ _ _ => N8
 rename Fr h₀ _ _ _ => F8
 refine hret _ _ _ _ F8 (led5h N8) ⟨_, _, ⟨_, _, _, tks [_, _, _, _, _], _, _, _, _, _, [], [], []⟩, rfl, ?_, ?_, rfl, rfl, rfl, rfl⟩
 ·dsimp only
  simp only [List.nodup_cons, List.mem_cons, List.not_mem_nil, or_false, not_or, List.nodup_nil, and_true, not_false_eq_true]
  repeat' apply And.intro
  all_goals first | k_ne | (refine Ne.symm ?_; k_ne)
 ·intro p hp
  dsimp only
  simp only [List.mem_cons, List.not_mem_nil, or_false, not_or]
  refine ⟨?_, ?_, ?_, ?_, ?_⟩ <;> first | (revert p hp; k_all)
 ) ?_
 intro q f
 simpa using f (default : (by exact Fin 1))
theorem ok9 : ∀ y, P9 y := Classical.choose_spec ex9 (by with_unfolding_all exact core9)
end events_make_h
theorem events_make_does {prog : Program} {w : World} {mean : ExcName → Option Value} {mg mb : Str → Option Value} {news : Led} {n : Int} {t : Tok} :
  Does prog w mean mg mb 265 [.int n t] 4 60 news (fun v l => ∃ (ev ed : Addr) (c : EvC), v = .ref ev ∧ [ev, ed, c.er, c.q, c.i].Nodup ∧ (∀ p ∈ news, p.1 ∉ [ev, ed, c.er, c.q, c.i]) ∧ c.qs = [] ∧ c.is = [] ∧ c.ls = [] ∧
   l = (ev, instObj 265 ed) :: (ed, dictOf (evD w.params c.k n c.tn c.q c.i c.er 0 c.tm) 5) :: (c.q, listOf c.qs.toArray c.nq) :: (c.i, listOf c.is.toArray c.ni) :: (c.er, listOf c.ls.toArray c.nl) :: news) := by
 intros dp un gd cn cs a ccd cl outer A₀ base h₀ L m s Q E
 exact events_make_h.ok9 (prog, w, mean, mg, mb, news, n, t, (dp, un, gd, cn, cs, a, ccd, cl, outer, A₀, base, h₀, L, m, s, Q, E)) 
namespace host_init_h
noncomputable abbrev T9 : Type := Program × World × (ExcName → Option Value) × (Str → Option Value) × (Str → Option Value) × Led × Addr × Addr × Tok × Cx
noncomputable def S9 (prog : Program) (w : World) (mean : ExcName → Option Value) (mg : Str → Option Value) (mb : Str → Option Value) (rest : Led) (ho : Addr) (hdd : Addr) (lt : Tok) (x9 : Cx) : Prop :=
 ∀ (d1 : ho ≠ hdd) (o1 : ∀ p ∈ rest, p.1 ≠ hdd), Does.at prog w mean mg mb 305 [.ref ho, .int 40 lt, .none] 3 60 ((ho, instObj 534 hdd) :: (hdd, dictOf [] 0) :: rest) (fun v l => v = .none ∧ ∃ (k : Nat → Tok) (tl il : Addr) (ot oi : Obj) (dt st et : Tok),
   l = (ho, instObj 534 hdd) :: (hdd, dictOf [⟨PyData.keyHash w.params "tools", .str "tools" (k 0), .ref tl⟩, ⟨PyData.keyHash w.params "inline", .str "inline" (k 1), .ref il⟩, ⟨PyData.keyHash w.params "limit", .str "limit" (k 2), .int 40 lt⟩,
  ⟨PyData.keyHash w.params "fuel", .str "fuel" (k 3), .none⟩, ⟨PyData.keyHash w.params "depth", .str "depth" (k 4), .int 0 dt⟩, ⟨PyData.keyHash w.params "spent", .str "spent" (k 5), .int 0 st⟩,
  ⟨PyData.keyHash w.params "epoch", .str "epoch" (k 6), .int 0 et⟩, ⟨PyData.keyHash w.params "frame", .str "frame" (k 7), .none⟩, ⟨PyData.keyHash w.params "coroutine", .str "coroutine" (k 8), .none⟩] 9) :: (tl, ot) :: (il, oi) :: rest ∧
   (∀ p ∈ (ho, instObj 534 hdd) :: (hdd, dictOf [] 0) :: rest, p.1 < tl) ∧ tl < il ∧ ot.IsDictOf (strKind prog w) [] ∧ (tl == sysModules) = false ∧ oi.IsDictOf (strKind prog w) [] ∧ (il == sysModules) = false) x9.1 x9.2.1 x9.2.2.1 x9.2.2.2.1 x9.2.2.2.2.1 x9.2.2.2.2.2.1 x9.2.2.2.2.2.2.1 x9.2.2.2.2.2.2.2.1 x9.2.2.2.2.2.2.2.2.1 x9.2.2.2.2.2.2.2.2.2.1 x9.2.2.2.2.2.2.2.2.2.2.1 x9.2.2.2.2.2.2.2.2.2.2.2.1 x9.2.2.2.2.2.2.2.2.2.2.2.2.1 x9.2.2.2.2.2.2.2.2.2.2.2.2.2.1 x9.2.2.2.2.2.2.2.2.2.2.2.2.2.2.1 x9.2.2.2.2.2.2.2.2.2.2.2.2.2.2.2.1 x9.2.2.2.2.2.2.2.2.2.2.2.2.2.2.2.2
noncomputable def P9 : T9 → Prop := cur fun prog => cur fun w => cur fun mean => cur fun mg => cur fun mb => cur fun rest => cur fun ho => cur fun hdd => cur fun lt => fun x9 => S9 prog w mean mg mb rest ho hdd lt x9
theorem ex9 : ∃ x, P9 x → ∀ y, P9 y := drinker P9 (PySem.Challenge.rw_np0139_01.prog, w0, default, default, default, default, default, default, default, cx0)
@[irreducible] def c9 : T9 := Classical.choose ex9
@[irreducible] def prog := c9.1
@[irreducible] def w := c9.2.1
@[irreducible] def mean := c9.2.2.1
@[irreducible] def mg := c9.2.2.2.1
@[irreducible] def mb := c9.2.2.2.2.1
@[irreducible] def rest := c9.2.2.2.2.2.1
@[irreducible] def ho := c9.2.2.2.2.2.2.1
@[irreducible] def hdd := c9.2.2.2.2.2.2.2.1
@[irreducible] def lt := c9.2.2.2.2.2.2.2.2.1
@[irreducible] def x9 := c9.2.2.2.2.2.2.2.2.2
abbrev h₀ := x9.2.2.2.2.2.2.2.2.2.2.2.1
theorem core9 : S9 prog w mean mg mb rest ho hdd lt x9 := by
 refine wr_z (by
 intro d1 o1 B F X T N hk hdp hu hret
 refine wpAny_call ?_
 k_dflt ktr_enter
 f_tup
 k_steps
 rename News h₀ _ _ _ => N8
 rename Fr h₀ _ _ _ => F8
 refine hret _ _ _ _ F8 (led4h N8) ⟨rfl, tks [_, _, _, _, _, _, _, _, _], _, _, _, _, _, _, _, rfl, ?_, (by first | assumption | exact lt_get (by assumption) (by k_mem)), (by first | assumption | exact lt_get (by assumption) (by k_mem)), (by first | assumption | exact lt_get (by assumption) (by k_mem)), (by first | assumption | exact lt_get (by assumption) (by k_mem)), (by first | assumption | exact lt_get (by assumption) (by k_mem))⟩
 tb_lt
 ) ?_
 intro q f
 simpa using f (default : (by exact Fin 1))
theorem ok9 : ∀ y, P9 y := Classical.choose_spec ex9 (by with_unfolding_all exact core9)
end host_init_h
theorem host_init_does {prog : Program} {w : World} {mean : ExcName → Option Value} {mg mb : Str → Option Value} {rest : Led} {ho hdd : Addr} {lt : Tok} (d1 : ho ≠ hdd) (o1 : ∀ p ∈ rest, p.1 ≠ hdd) :
  Does prog w mean mg mb 305 [.ref ho, .int 40 lt, .none] 3 60 ((ho, instObj 534 hdd) :: (hdd, dictOf [] 0) :: rest) (fun v l => v = .none ∧ ∃ (k : Nat → Tok) (tl il : Addr) (ot oi : Obj) (dt st et : Tok),
   l = (ho, instObj 534 hdd) :: (hdd, dictOf [⟨PyData.keyHash w.params "tools", .str "tools" (k 0), .ref tl⟩, ⟨PyData.keyHash w.params "inline", .str "inline" (k 1), .ref il⟩, ⟨PyData.keyHash w.params "limit", .str "limit" (k 2), .int 40 lt⟩,
  ⟨PyData.keyHash w.params "fuel", .str "fuel" (k 3), .none⟩, ⟨PyData.keyHash w.params "depth", .str "depth" (k 4), .int 0 dt⟩, ⟨PyData.keyHash w.params "spent", .str "spent" (k 5), .int 0 st⟩,
  ⟨PyData.keyHash w.params "epoch", .str "epoch" (k 6), .int 0 et⟩, ⟨PyData.keyHash w.params "frame", .str "frame" (k 7), .none⟩, ⟨PyData.keyHash w.params "coroutine", .str "coroutine" (k 8), .none⟩] 9) :: (tl, ot) :: (il, oi) :: rest ∧
   (∀ p ∈ (ho, instObj 534 hdd) :: (hdd, dictOf [] 0) :: rest, p.1 < tl) ∧ tl < il ∧ ot.IsDictOf (strKind prog w) [] ∧ (tl == sysModules) = false ∧ oi.IsDictOf (strKind prog w) [] ∧ (il == sysModules) = false) := by
 intros dp un gd cn cs a ccd cl outer A₀ base h₀ L m s Q E
 exact host_init_h.ok9 (prog, w, mean, mg, mb, rest, ho, hdd, lt, (dp, un, gd, cn, cs, a, ccd, cl, outer, A₀, base, h₀, L, m, s, Q, E)) d1 o1
noncomputable def HaltH : Prop := True
theorem wrd_F11_1 : True := by
 k_with "my call ref" => ((fail_if_success (fail_if_success (have h9 := in_F11))); (((have halt9 := (by assumption : HaltH)); (with_reducible show wpAny _ _ (call (Value.ref 305) _) _ _ _); refine Stop.out ?_)))
 trivial
namespace small_make_h
noncomputable abbrev T9 : Type := Program × World × (ExcName → Option Value) × (Str → Option Value) × (Str → Option Value) × Led × Cx
noncomputable def S9 (prog : Program) (w : World) (mean : ExcName → Option Value) (mg : Str → Option Value) (mb : Str → Option Value) (news : Led) (x9 : Cx) : Prop :=
 Does.at prog w mean mg mb 534 [] 6 100 news (fun v l => ∃ (ho hdd : Addr) (hc : HoC) (dt st : Tok) (ot oi ov oc of : Obj), v = .ref ho ∧ l = hoL w.params ho hdd hc 0 dt 0 st ((hc.tl, ot) :: (hc.il, oi) :: (hc.vr, ov) :: (hc.cm, oc) :: (hc.fi, of) :: news) ∧
   (∀ p ∈ news, p.1 < hdd) ∧ hdd < ho ∧ ho < hc.tl ∧ hc.tl < hc.il ∧ hc.il < hc.vr ∧ hc.vr < hc.cm ∧ hc.cm < hc.fi ∧ ot.IsDictOf (strKind prog w) [] ∧ (hc.tl == sysModules) = false ∧ oi.IsDictOf (strKind prog w) [] ∧ (hc.il == sysModules) = false ∧ oc.IsDictOf (strKind prog w) [] ∧ (hc.cm == sysModules) = false ∧ of.IsDictOf (strKind prog w) [] ∧ (hc.fi == sysModules) = false) x9.1 x9.2.1 x9.2.2.1 x9.2.2.2.1 x9.2.2.2.2.1 x9.2.2.2.2.2.1 x9.2.2.2.2.2.2.1 x9.2.2.2.2.2.2.2.1 x9.2.2.2.2.2.2.2.2.1 x9.2.2.2.2.2.2.2.2.2.1 x9.2.2.2.2.2.2.2.2.2.2.1 x9.2.2.2.2.2.2.2.2.2.2.2.1 x9.2.2.2.2.2.2.2.2.2.2.2.2.1 x9.2.2.2.2.2.2.2.2.2.2.2.2.2.1 x9.2.2.2.2.2.2.2.2.2.2.2.2.2.2.1 x9.2.2.2.2.2.2.2.2.2.2.2.2.2.2.2.1 x9.2.2.2.2.2.2.2.2.2.2.2.2.2.2.2.2
noncomputable def P9 : T9 → Prop := cur fun prog => cur fun w => cur fun mean => cur fun mg => cur fun mb => cur fun news => fun x9 => S9 prog w mean mg mb news x9
theorem ex9 : ∃ x, P9 x → ∀ y, P9 y := drinker P9 (PySem.Challenge.rw_np0139_01.prog, w0, default, default, default, default, cx0)
@[irreducible] def c9 : T9 := Classical.choose ex9
@[irreducible] def prog := c9.1
@[irreducible] def w := c9.2.1
@[irreducible] def mean := c9.2.2.1
@[irreducible] def mg := c9.2.2.2.1
@[irreducible] def mb := c9.2.2.2.2.1
@[irreducible] def news := c9.2.2.2.2.2.1
@[irreducible] def x9 := c9.2.2.2.2.2.2
abbrev h₀ := x9.2.2.2.2.2.2.2.2.2.2.2.1
theorem core9 : S9 prog w mean mg mb news x9 := by
 refine wr_z (by
 intro B F X T N hk hdp hu hret
 refine' call_cls ?ck1 ?ck2 ?ck3 ?ck4 ?ck5 ?ck6 ?_
 case ck1 => k_asm
 case ck2 => k_asm
 case ck3 => k_asm
 case ck4 => k_is
 case ck5 => k_is
 case ck6 => k_is
 intro ho hdd h1 F1 N1 l1 l2
 k_lt l1
 try k_lt2 l2
 have l3 : ∀ p ∈ news, @LT.lt Nat _ p.1 ho := fun p hp => Nat.lt_trans (l1 p hp) l2
 k_dflt walk_at "enter"
 have halt : HaltH := trivial
 f_tup
 k_steps
 refine Stop.mk ?_
 f_tup
 rename News _ _ _ _ => N9
 rename Fr _ _ _ _ => F9
 refine Does.use (by k_asm) F9 (by k_asm) (by k_asm) N9 rfl (host_init_does (by k_ne) (by k_all)) (by ktr_room) (by simp only [units_under_make]; w_how) ?_
 clear N9 F9
 intro v9 h9 tk9 news9 F9 N9
 (k_extra "st"; k_extra "sr"; km_mul k; km_mul tl; km_mul il; km_mul ot; km_mul oi; km_mul dt; km_mul st; km_mul et; k_extra "st"; k_extra "sr"; km_mul lt1; km_mul lt2; km_mul d1; km_mul d2; km_mul d3; intro d4)
 f_tup
 have lt3 : ∀ p ∈ (ho, instObj 534 hdd) :: (hdd, dictOf [] 0) :: news, p.1 < il := fun p hp => Nat.lt_trans (lt1 p hp) lt2
 k_lt lt1
 k_lt lt3
 f_tup
 k_steps
 rename News h₀ _ _ _ => N8
 rename Fr h₀ _ _ _ => F8
 refine hret _ _ _ _ F8 (led7h N8) ⟨_, _, ⟨tks [_, _, _, _, _, _, _, _, _, _, _, _], _, _, _, _, _, _, _⟩, _, _, _, _, _, _, _, rfl, rfl, l1, l2, (by first | assumption | exact lt_get (by assumption) (by k_mem)), lt2, (by first | assumption | exact lt_get (by assumption) (by k_mem)), (by first | assumption | exact lt_get (by assumption) (by k_mem)), (by first | assumption | exact lt_get (by assumption) (by k_mem)), d1, d2, d3, d4, (by first | assumption | exact lt_get (by assumption) (by k_mem)), (by first | assumption | exact lt_get (by assumption) (by k_mem)), (by first | assumption | exact lt_get (by assumption) (by k_mem)), (by first | assumption | exact lt_get (by assumption) (by k_mem))⟩
 ) ?_
 intro q f
 simpa using f (default : (by exact Fin 1))

theorem ok9 : ∀ y, P9 y := Classical.choose_spec ex9 (by with_unfolding_all exact core9)
end small_make_h
theorem small_make_does {prog : Program} {w : World} {mean : ExcName → Option Value} {mg mb : Str → Option Value} {news : Led} :
  Does prog w mean mg mb 534 [] 6 100 news (fun v l => ∃ (ho hdd : Addr) (hc : HoC) (dt st : Tok) (ot oi ov oc of : Obj), v = .ref ho ∧ l = hoL w.params ho hdd hc 0 dt 0 st ((hc.tl, ot) :: (hc.il, oi) :: (hc.vr, ov) :: (hc.cm, oc) :: (hc.fi, of) :: news) ∧
   (∀ p ∈ news, p.1 < hdd) ∧ hdd < ho ∧ ho < hc.tl ∧ hc.tl < hc.il ∧ hc.il < hc.vr ∧ hc.vr < hc.cm ∧ hc.cm < hc.fi ∧ ot.IsDictOf (strKind prog w) [] ∧ (hc.tl == sysModules) = false ∧ oi.IsDictOf (strKind prog w) [] ∧ (hc.il == sysModules) = false ∧ oc.IsDictOf (strKind prog w) [] ∧ (hc.cm == sysModules) = false ∧ of.IsDictOf (strKind prog w) [] ∧ (hc.fi == sysModules) = false) := by
 intros dp un gd cn cs a ccd cl outer A₀ base h₀ L m s Q E
 exact small_make_h.ok9 (prog, w, mean, mg, mb, news, (dp, un, gd, cn, cs, a, ccd, cl, outer, A₀, base, h₀, L, m, s, Q, E)) 
end
theorem In_F11b.in_F11b : True := trivial
noncomputable section
open In_F11b
theorem my_pop {prog : Program} {w : World} {A : Around} {E : Value → Shared → Prop} {s : Shared} {h₀ : Heap} {L d : Addr} {news : Led} {o : Obj} {kvs : List (Str × Value)} {k : Str} {u : Tok} {v : Value} {Q : Value → Shared → Prop} (N : News h₀ L s.heap news) (hp : (d, o) ∈ news) (hd : o.IsDictOf (strKind prog w) kvs) (lo : (d == sysModules) = false) (hl : valueAt kvs k = none) (h : Q v { s with toks := s.toks + 1 }) :
  wpAny (model prog w) A (call (.builtin "dict.pop") [.ref d, .str k u, v]) Q E s := by
 have hD : s.heap.DictOf (strKind prog w) d kvs := Heap.dictOf_iff.mpr ⟨o, (N _ hp).1, hd⟩
 exact call_meetsIn PySem.F.slot_dict_pop hD.typeIs PySem.F.entry_dict_pop (PySem.F.args_dict_pop_3 _ _ _) (meets_dict_pop_default (strKind prog w) d (strKind_is _ _ _ _) lo rfl v) ⟨kvs, hD, hl, h⟩
theorem led8h {h₀ h : Heap} {L : Addr} {p1 p2 p3 p4 p5 p6 p7 p8 : Addr × Obj} {r : Led} (N : News h₀ L h (p1 :: p2 :: p3 :: p4 :: p5 :: p6 :: p7 :: p8 :: r)) : News h₀ L h (p2 :: p3 :: p4 :: p5 :: p6 :: p7 :: p8 :: p1 :: r) := fun p hp => N p (by revert p hp; kqd_sub)
noncomputable def HaltP (kvs : List (Str × Value)) (nm : Str) : Prop := valueAt kvs nm = none
theorem wrd_F11b_1 : True := by
 k_with "my call builtin:dict.pop" => ((fail_if_success (fail_if_success (have h9 := in_F11b))); (((have halt9 := (by assumption : HaltP _ _)); refine Stop.out ?_)))
 k_with "my compareOp In str ref" => ((fail_if_success (fail_if_success (have h9 := in_F11b))); (((have halt9 := (by assumption : HaltP _ _)); refine Stop.out ?_)))
 k_with "my setItem ref str" => ((fail_if_success (fail_if_success (have h9 := in_F11b))); (((have halt9 := (by assumption : HaltP _ _)); refine Stop.out ?_)))
 trivial
namespace put_h
noncomputable abbrev T9 : Type := Program × World × (ExcName → Option Value) × (Str → Option Value) × (Str → Option Value) × Addr × Addr × Addr × HoC × Tok × Tok × Tok × Obj × Obj × Obj × Obj × Obj × Str × List (Str × Value) × Led × Cx
noncomputable def S9 (prog : Program) (w : World) (mean : ExcName → Option Value) (mg : Str → Option Value) (mb : Str → Option Value) (ho : Addr) (hdd : Addr) (dt : Addr) (hc : HoC) (t0 : Tok) (t1 : Tok) (tn : Tok) (ot : Obj) (oi : Obj) (ov : Obj) (oc : Obj) (of : Obj) (nm : Str) (kvs : List (Str × Value)) (rest : Led) (x9 : Cx) : Prop :=
 ∀ (n1 : ho ≠ hdd) (n2 : ∀ p ∈ rest, p.1 ≠ hdd) (n3 : ∀ p ∈ rest, p.1 ≠ hc.cm) (n4 : ho ≠ hc.cm) (n5 : hdd ≠ hc.cm) (n6 : hc.tl ≠ hc.cm) (n7 : hc.il ≠ hc.cm) (n8 : hc.vr ≠ hc.cm) (n9 : hc.fi ≠ hc.cm) (m1 : hc.tl ≠ hdd) (m2 : hc.il ≠ hdd) (m3 : hc.vr ≠ hdd) (m4 : hc.fi ≠ hdd) (d1 : oi.IsDictOf (strKind prog w) []) (s1 : (hc.il == sysModules) = false) (d2 : oc.IsDictOf (strKind prog w) kvs) (s2 : (hc.cm == sysModules) = false) (d3 : of.IsDictOf (strKind prog w) []) (s3 : (hc.fi == sysModules) = false) (hk : valueAt kvs nm = none) (hlen : kvs.length < 10), Does.at prog w mean mg mb 503 [.ref ho, .str nm tn, .ref 585, .ref dt] 6 100 (hoL w.params ho hdd hc 0 t0 0 t1 ((hc.tl, ot) :: (hc.il, oi) :: (hc.vr, ov) :: (hc.cm, oc) :: (hc.fi, of) :: rest)) (fun v l => v = .none ∧ ∃ (z : Addr) (oc' : Obj), l = hoL w.params ho hdd hc 0 t0 0 t1 ((hc.tl, ot) :: (hc.il, oi) :: (hc.vr, ov) :: (hc.cm, oc') :: (hc.fi, of) :: (z, tupO [.ref 585, .ref dt] 0) :: rest) ∧ oc'.IsDictOf (strKind prog w) (stored kvs nm (.ref z)) ∧
   ∀ p ∈ hoL w.params ho hdd hc 0 t0 0 t1 ((hc.tl, ot) :: (hc.il, oi) :: (hc.vr, ov) :: (hc.cm, oc) :: (hc.fi, of) :: rest), p.1 < z) x9.1 x9.2.1 x9.2.2.1 x9.2.2.2.1 x9.2.2.2.2.1 x9.2.2.2.2.2.1 x9.2.2.2.2.2.2.1 x9.2.2.2.2.2.2.2.1 x9.2.2.2.2.2.2.2.2.1 x9.2.2.2.2.2.2.2.2.2.1 x9.2.2.2.2.2.2.2.2.2.2.1 x9.2.2.2.2.2.2.2.2.2.2.2.1 x9.2.2.2.2.2.2.2.2.2.2.2.2.1 x9.2.2.2.2.2.2.2.2.2.2.2.2.2.1 x9.2.2.2.2.2.2.2.2.2.2.2.2.2.2.1 x9.2.2.2.2.2.2.2.2.2.2.2.2.2.2.2.1 x9.2.2.2.2.2.2.2.2.2.2.2.2.2.2.2.2
noncomputable def P9 : T9 → Prop := cur fun prog => cur fun w => cur fun mean => cur fun mg => cur fun mb => cur fun ho => cur fun hdd => cur fun dt => cur fun hc => cur fun t0 => cur fun t1 => cur fun tn => cur fun ot => cur fun oi => cur fun ov => cur fun oc => cur fun of => cur fun nm => cur fun kvs => cur fun rest => fun x9 => S9 prog w mean mg mb ho hdd dt hc t0 t1 tn ot oi ov oc of nm kvs rest x9
theorem ex9 : ∃ x, P9 x → ∀ y, P9 y := drinker P9 (PySem.Challenge.rw_np0139_01.prog, w0, default, default, default, default, default, default, (⟨fun _ => 0, 0, 0, 0, 0, 0, 0, 0⟩ : HoC), default, default, default, default, default, default, default, default, default, default, default, cx0)
@[irreducible] def c9 : T9 := Classical.choose ex9
@[irreducible] def prog := c9.1
@[irreducible] def w := c9.2.1
@[irreducible] def mean := c9.2.2.1
@[irreducible] def mg := c9.2.2.2.1
@[irreducible] def mb := c9.2.2.2.2.1
@[irreducible] def ho := c9.2.2.2.2.2.1
@[irreducible] def hdd := c9.2.2.2.2.2.2.1
@[irreducible] def dt := c9.2.2.2.2.2.2.2.1
@[irreducible] def hc := c9.2.2.2.2.2.2.2.2.1
@[irreducible] def t0 := c9.2.2.2.2.2.2.2.2.2.1
@[irreducible] def t1 := c9.2.2.2.2.2.2.2.2.2.2.1
@[irreducible] def tn := c9.2.2.2.2.2.2.2.2.2.2.2.1
@[irreducible] def ot := c9.2.2.2.2.2.2.2.2.2.2.2.2.1
@[irreducible] def oi := c9.2.2.2.2.2.2.2.2.2.2.2.2.2.1
@[irreducible] def ov := c9.2.2.2.2.2.2.2.2.2.2.2.2.2.2.1
@[irreducible] def oc := c9.2.2.2.2.2.2.2.2.2.2.2.2.2.2.2.1
@[irreducible] def of := c9.2.2.2.2.2.2.2.2.2.2.2.2.2.2.2.2.1
@[irreducible] def nm := c9.2.2.2.2.2.2.2.2.2.2.2.2.2.2.2.2.2.1
@[irreducible] def kvs := c9.2.2.2.2.2.2.2.2.2.2.2.2.2.2.2.2.2.2.1
@[irreducible] def rest := c9.2.2.2.2.2.2.2.2.2.2.2.2.2.2.2.2.2.2.2.1
@[irreducible] def x9 := c9.2.2.2.2.2.2.2.2.2.2.2.2.2.2.2.2.2.2.2.2
abbrev h₀ := x9.2.2.2.2.2.2.2.2.2.2.2.1
theorem core9 : S9 prog w mean mg mb ho hdd dt hc t0 t1 tn ot oi ov oc of nm kvs rest x9 := by
 refine wr_z (by
 intro n1 n2 n3 n4 n5 n6 n7 n8 n9 m1 m2 m3 m4 d1 s1 d2 s2 d3 s3 hk hlen B F X T N hk1 hdp hu hret
 simp only [hoL] at N hret ⊢
 refine wpAny_call ?_
 k_dflt walk_at "enter"
 (try dsimp +zetaDelta only)
 have halt : HaltP kvs nm := hk
 f_tup
 k_steps
 refine Stop.mk ?_
 f_tup
 refine my_pop (by k_asm) (by k_mem) d2 s2 hk ?_
 f_tup
 k_steps
 refine Stop.mk ?_
 f_tup
 refine my_pop (by k_asm) (by k_mem) d3 s3 rfl ?_
 f_tup
 k_steps
 refine Stop.mk ?_
 f_tup
 refine kda_in (knd := PySem.strKind _ _) (by k_asm) (by k_mem) d1 s1 (strKind_is _ _ _ _) false rfl ?_
 f_tup
 k_steps
 refine Stop.mk ?_
 f_tup
 refine' kda_set (knd := PySem.strKind _ _) ?stF ?stN ?stU d2 (strKind_is _ _ _ _) ?stz ?_
 case stF => k_asm
 case stN => k_asm
 case stU => k_updF
 case stz => rw [sizeLine_eq]; w_how
 intro h9 oc9 F9 N9 hd9
 try dsimp only at N9
 f_tup
 k_steps
 rename News h₀ _ _ _ => N8
 rename Fr h₀ _ _ _ => F8
 refine hret _ _ _ _ F8 (led8h N8) ⟨rfl, _, _, rfl, hd9, ?_⟩
 try dsimp only [hoL]
 tb_lt
 ) ?_
 intro q f
 simpa using f (default : (by exact Fin 1))

theorem ok9 : ∀ y, P9 y := Classical.choose_spec ex9 (by with_unfolding_all exact core9)
end put_h
theorem put_does {prog : Program} {w : World} {mean : ExcName → Option Value} {mg mb : Str → Option Value} {ho hdd dt : Addr} {hc : HoC} {t0 t1 tn : Tok} {ot oi ov oc of : Obj} {nm : Str} {kvs : List (Str × Value)} {rest : Led}
  (n1 : ho ≠ hdd) (n2 : ∀ p ∈ rest, p.1 ≠ hdd) (n3 : ∀ p ∈ rest, p.1 ≠ hc.cm) (n4 : ho ≠ hc.cm) (n5 : hdd ≠ hc.cm) (n6 : hc.tl ≠ hc.cm) (n7 : hc.il ≠ hc.cm) (n8 : hc.vr ≠ hc.cm) (n9 : hc.fi ≠ hc.cm)
  (m1 : hc.tl ≠ hdd) (m2 : hc.il ≠ hdd) (m3 : hc.vr ≠ hdd) (m4 : hc.fi ≠ hdd)
  (d1 : oi.IsDictOf (strKind prog w) []) (s1 : (hc.il == sysModules) = false) (d2 : oc.IsDictOf (strKind prog w) kvs) (s2 : (hc.cm == sysModules) = false) (d3 : of.IsDictOf (strKind prog w) []) (s3 : (hc.fi == sysModules) = false) (hk : valueAt kvs nm = none) (hlen : kvs.length < 10) :
  Does prog w mean mg mb 503 [.ref ho, .str nm tn, .ref 585, .ref dt] 6 100 (hoL w.params ho hdd hc 0 t0 0 t1 ((hc.tl, ot) :: (hc.il, oi) :: (hc.vr, ov) :: (hc.cm, oc) :: (hc.fi, of) :: rest)) (fun v l => v = .none ∧ ∃ (z : Addr) (oc' : Obj), l = hoL w.params ho hdd hc 0 t0 0 t1 ((hc.tl, ot) :: (hc.il, oi) :: (hc.vr, ov) :: (hc.cm, oc') :: (hc.fi, of) :: (z, tupO [.ref 585, .ref dt] 0) :: rest) ∧ oc'.IsDictOf (strKind prog w) (stored kvs nm (.ref z)) ∧
   ∀ p ∈ hoL w.params ho hdd hc 0 t0 0 t1 ((hc.tl, ot) :: (hc.il, oi) :: (hc.vr, ov) :: (hc.cm, oc) :: (hc.fi, of) :: rest), p.1 < z) := by
 intros dp un gd cn cs a ccd cl outer A₀ base h₀ L m s Q E
 exact put_h.ok9 (prog, w, mean, mg, mb, ho, hdd, dt, hc, t0, t1, tn, ot, oi, ov, oc, of, nm, kvs, rest, (dp, un, gd, cn, cs, a, ccd, cl, outer, A₀, base, h₀, L, m, s, Q, E)) n1 n2 n3 n4 n5 n6 n7 n8 n9 m1 m2 m3 m4 d1 s1 d2 s2 d3 s3 hk hlen
end
theorem In_F11c.in_F11c : True := trivial
noncomputable section
open In_F11c Off9 Noi9
theorem valueAt_stored {kvs : List (Str × Value)} {k k' : Str} {v : Value} (h : valueAt kvs k = none) : valueAt (stored kvs k v) k' = if k' = k then some v else valueAt kvs k' := by
 rw [PyProof.Rows.stored_absent h]
 unfold valueAt at h ⊢
 rw [List.find?_append]
 by_cases e : k' = k
 ·subst e
  rw [if_pos rfl]
  have hn : (kvs.find? fun kv => kv.1 = k') = none := by simpa using h
  rw [hn]
  simp
 ·rw [if_neg e]
  have : ([(k, v)].find? fun kv => kv.1 = k') = none := by simp [Ne.symm e]
  rw [this, Option.or_none]
noncomputable def nmAt (j : Nat) : Str := sNames.getD j (Str.ofString "")
theorem nmAt_inj : ∀ j, j < 5 → ∀ k, k < 5 → nmAt j = nmAt k → j = k := by unfold nmAt; decide +kernel
theorem nmAt_wt : ∀ j, j < 5 → wtN (nmAt j) = 5 - j := by unfold nmAt; decide +kernel
theorem nmAt_mem : ∀ j, j < 5 → nmAt j ∈ sNames := by unfold nmAt; decide +kernel
theorem nmAt_of {nm : Str} (h : nm ∈ sNames) : ∃ j, j < 5 ∧ nm = nmAt j := by
 obtain ⟨j, hj, e⟩ := List.getElem_of_mem h
 refine ⟨j, hj, ?_⟩
 unfold nmAt
 rw [List.getD_eq_getElem?_getD, List.getElem?_eq_getElem hj, Option.getD_some, e]
theorem range5 : Builtin.Range.rangeSize 0 5 1 = ((5 : Nat) : Int) := by decide
theorem range14 : Builtin.Range.rangeSize 0 14 1 = ((14 : Nat) : Int) := by decide
theorem mono_int {M : Model} {A : Around} {t : Sem Value} {Q E : Value → Shared → Prop} {s : Shared} (h : wpAny M A t (fun v s' => ∃ (n : Int) (u : Tok) (tk : Nat), v = .int n u ∧ s' = { s with toks := tk }) E s) (k : ∀ n u tk, Q (.int n u) { s with toks := tk }) : wpAny M A t Q E s :=
 wpAny_mono h (fun v s' ⟨n, u, tk, e1, e2⟩ => by subst e1 e2; exact k n u tk) fun _ _ e => e
theorem back0 {g g' : Heap} (T : KtsTurn [] g g') : ∀ b, g'.get? b = g.get? b := fun b => by
 cases h : g.get? b with
 |none => exact T.none_ b h
 |some o => exact T.other b o h (fun m => nomatch m)
theorem fr_back0 {g g' h : Heap} {L : Addr} {m : Str → Option Value} (T : KtsTurn [] g g') (F : Fr g' L h m) : Fr g L h m :=
 ⟨F.ns, fun b o e => F.keep b o ((back0 T b).trans e), by rw [← T.size]; exact F.above⟩
theorem news_back0 {g g' h : Heap} {L : Addr} {l : Led} (T : KtsTurn [] g g') (N : News g' L h l) : News g L h l := fun p hp => ⟨(N p hp).1, (N p hp).2.1, (back0 T p.1).symm.trans (N p hp).2.2⟩
theorem DoesX.use0 {prog : Program} {w : World} {mean : ExcName → Option Value} {mg mb : Str → Option Value} {f : Addr} {vs : List Value} {dd uu : Nat} {news : Led} {P : Value → Led → Prop} {dp un : Nat} {gd : Option (List Code)} {cn : Str} {cs : Scope} {a : Addr} {ccd : Value} {A₀ : Around} {h₀ : Heap} {L : Addr} {m : Str → Option Value} {s : Shared} {Q E : Value → Shared → Prop}
  (B : Below A₀ h₀ [] h₀) (F : Fr h₀ L s.heap m) (X : (K9 w.params).In h₀) (T : Top view9 lse mean mg mb h₀) (N : News h₀ L s.heap news) (hk : cs.kind = .function)
  (c : DoesX prog w mean mg mb f vs dd uu news P (fun _ _ => False)) (h1 : dp + dd < recursionLimit) (h2 : un + uu < cLine)
  (k : ∀ r h' tk' news', Fr h₀ L h' m → News h₀ L h' news' → P r news' → Q r { s with heap := h', toks := tk' }) :
  wpAny (model prog w) (ktrTop dp un gd cn cs L a ccd [] []) (call (.ref f) vs) Q E s :=
 DoesX.use B F X T ktsDicts_nil N hk c h1 h2 (fun _ r h' tk' news' t F' N' _ _ _ _ p => k r h' tk' news' (fr_back0 t F') (news_back0 t N') p) fun _ _ _ _ _ _ _ _ _ _ _ _ h => h.elim
section
variable {prog : Program} {w : World} {mean : ExcName → Option Value} {mg mb : Str → Option Value} {f : Addr} {vs : List Value} {dd uu : Nat} {news : Led} {P : Value → Led → Prop}
theorem DoesS.use {sl : Addr} {svs : List Value} {dp un : Nat} {gd : Option (List Code)} {cn : Str} {cs : Scope} {a : Addr} {ccd : Value} {cl : List (Str × Addr)} {outer : List Env} {A₀ : Around} {base h₀ : Heap} {L : Addr} {m : Str → Option Value} {s : Shared} {Q E : Value → Shared → Prop}
  (hS : h₀.IsList sl svs.toArray) (B : Below A₀ base outer h₀) (F : Fr h₀ L s.heap m) (X : (K9 w.params).In h₀) (T : Top view9 lse mean mg mb h₀) (N : News h₀ L s.heap news) (hk : cs.kind = .function)
  (c : DoesS prog w mean mg mb sl svs f vs dd uu news P) (h1 : dp + dd < recursionLimit) (h2 : un + uu < cLine)
  (k : ∀ r h' tk' news', Fr h₀ L h' m → News h₀ L h' news' → P r news' → Q r { s with heap := h', toks := tk' }) :
  wpAny (model prog w) (ktrTop dp un gd cn cs L a ccd cl outer) (call (.ref f) vs) Q E s := c _ _ _ _ _ _ _ _ _ _ _ _ _ _ _ _ _ hS B F X T N hk h1 h2 k
end
theorem UnrPost.mono {h₀ : Heap} {L : Addr} {s₁ : Shared} {I : Addr} {it : Obj} {rest rest' : (Str → Option Value) → Led → Prop} {Q : Flow → Shared → Prop} {f : Flow} {s₂ : Shared} (h : UnrPost h₀ L s₁ I it rest Q f s₂) (hr : ∀ m l, rest m l → rest' m l) : UnrPost h₀ L s₁ I it rest' Q f s₂ := by
 cases f with
 |ret v => exact h
 |brk => exact h
 |next => exact let ⟨h', tk, m', l, e, F, N, o, r⟩ := h; ⟨h', tk, m', l, e, F, N, o, hr _ _ r⟩
 |cont => exact let ⟨h', tk, m', l, e, F, N, o, r⟩ := h; ⟨h', tk, m', l, e, F, N, o, hr _ _ r⟩
section
variable {prog : Program} {w : World} {A : Around} {E : Value → Shared → Prop} {s : Shared} {env : Env} {h₀ : Heap} {x : Str} {body : List Stmt} {Q : Flow → Shared → Prop}
theorem rangeJ (n : Nat) {r : Addr} {b₀ : Int} {t₀ u₀ v₀ : Tok} {m₀ : Str → Option Value} {news : Led} (J : Addr → Nat → (Str → Option Value) → Led → Prop)
  (hh : A.handled = none) (hr : IsRange s.heap r 0 b₀ 1 t₀ u₀ v₀) (hsmall : Builtin.Range.small 0 b₀ 1 = true) (hn : Builtin.Range.rangeSize 0 b₀ 1 = (n : Int)) (F : Fr h₀ env.locals s.heap m₀) (N : News h₀ env.locals s.heap news) (h0 : ∀ I, (∀ p ∈ news, p.1 < I) → J I 0 m₀ news)
  (turn : ∀ i m l I it t h tk, i < n → J I i m l → Fr h₀ env.locals h (fun y => if y = x then some (.int (i : Int) t) else m y) → News h₀ env.locals h ((I, it) :: l) →
   wpAny (model prog w) A (execs body env) (UnrPost h₀ env.locals { s with heap := h, toks := tk } I it (J I (i + 1)) Q) E { s with heap := h, toks := tk })
  (done : ∀ I m l h tk, J I n m l → Fr h₀ env.locals h m → News h₀ env.locals h l → Q .next { s with heap := h, toks := tk }) :
  wpAny (model prog w) A (pyIter (.ref r)) (fun it s₂ => LoopAtV prog w A h₀ env x body Q E it s₂) E s := by
 have key : ∀ I k i m l, i + k = n → J I i m l → RangeRest prog w A E h₀ env x body Q s I 0 n k i m l := by
  intro I k
  induction k with
  |zero =>
   intro i m l e hJ
   have : i = n := by w_how
   subst this
   exact RangeRest.zero fun h tk F N => done I m l h tk hJ F N
  |succ k ih =>
   intro i m l e hJ
   refine RangeRest.succ fun t h tk F N => ?_
   rw [Int.zero_add] at F
   exact wpAny_mono (turn i m l I _ t h tk (by w_how) hJ F N) (fun f s₂ p => UnrPost.mono p fun m' l' q => ih (i + 1) m' l' (by w_how) q) fun _ _ e => e
 exact iter_rangeUnr hh hr hsmall hn F N fun I hI => key I n 0 m₀ news (by w_how) (h0 I hI)
end
section
variable {prog : Program} {w : World} {A : Around} {E : Value → Shared → Prop} {s : Shared} {env : Env} {h₀ : Heap} {x : Str} {body : List Stmt} {Q : Flow → Shared → Prop}
theorem rangeJ1 (n : Nat) (z : Str) {r : Addr} {b₀ : Int} {t₀ u₀ v₀ : Tok} {m₀ : Str → Option Value} {news : Led} (J : Addr → Nat → Led → Prop)
  (hh : A.handled = none) (hr : IsRange s.heap r 0 b₀ 1 t₀ u₀ v₀) (hsmall : Builtin.Range.small 0 b₀ 1 = true) (hn : Builtin.Range.rangeSize 0 b₀ 1 = (n : Int)) (F : Fr h₀ env.locals s.heap m₀) (N : News h₀ env.locals s.heap news) (h0 : ∀ I, (∀ p ∈ news, p.1 < I) → J I 0 news)
  (turn : ∀ i l I it t u h tk, i < n → J I i l → Fr h₀ env.locals h (fun y => if y = x then some (.int (i : Int) t) else if y = z then u else m₀ y) → News h₀ env.locals h ((I, it) :: l) →
   wpAny (model prog w) A (execs body env) (UnrPost h₀ env.locals { s with heap := h, toks := tk } I it (fun m' l' => (∀ y, y ≠ x → y ≠ z → m' y = m₀ y) ∧ J I (i + 1) l') Q) E { s with heap := h, toks := tk })
  (done : ∀ I l u1 u2 h tk, J I n l → Fr h₀ env.locals h (fun y => if y = x then u1 else if y = z then u2 else m₀ y) → News h₀ env.locals h l → Q .next { s with heap := h, toks := tk }) :
  wpAny (model prog w) A (pyIter (.ref r)) (fun it s₂ => LoopAtV prog w A h₀ env x body Q E it s₂) E s := by
 have norm : ∀ {m : Str → Option Value}, (∀ y, y ≠ x → y ≠ z → m y = m₀ y) → ∀ u, (fun y => if y = x then u else m y) = fun y => if y = x then u else if y = z then m z else m₀ y := fun {m} h u => by
  funext y
  by_cases e : y = x
  ·simp [e]
  ·by_cases e2 : y = z
   ·subst e2; simp [e]
   ·simp only [if_neg e, if_neg e2]; exact h y e e2
 have norm2 : ∀ {m : Str → Option Value}, (∀ y, y ≠ x → y ≠ z → m y = m₀ y) → m = fun y => if y = x then m x else if y = z then m z else m₀ y := fun {m} h => by
  funext y
  by_cases e : y = x
  ·simp [e]
  ·by_cases e2 : y = z
   ·subst e2; simp [e]
   ·simp only [if_neg e, if_neg e2]; exact h y e e2
 refine rangeJ n (fun I i m l => (∀ y, y ≠ x → y ≠ z → m y = m₀ y) ∧ J I i l) hh hr hsmall hn F N (fun I hI => ⟨fun _ _ _ => rfl, h0 I hI⟩) ?_ ?_
 ·rintro i m l I it t h tk hi ⟨hm, hJ⟩ F1 N1
  rw [norm hm] at F1
  exact turn i l I it t (m z) h tk hi hJ F1 N1
 ·rintro I m l h tk ⟨hm, hJ⟩ F1 N1
  rw [norm2 hm] at F1
  exact done I l (m x) (m z) h tk hJ F1 N1
end
theorem start_names {h₀ h : Heap} {L : Addr} {P : Params} {ho hdd : Addr} {hc : HoC} {dp sp : Int} {dt st : Tok} {a1 a2 a3 a4 a5 : Addr × Obj} {rd gl be rw bk lg : Addr} {od ob g1 g2 g3 g4 : Obj} {t : Led}
  (_ : News h₀ L h (hoL P ho hdd hc dp dt sp st (a1 :: a2 :: a3 :: a4 :: a5 :: (rd, od) :: (gl, g1) :: (be, g2) :: (rw, g3) :: (bk, ob) :: (lg, g4) :: t))) : ∃ rd' od' gl' be' rw' bk' ob' lg', rd' = rd ∧ od' = od ∧ gl' = gl ∧ be' = be ∧ rw' = rw ∧ bk' = bk ∧ ob' = ob ∧ lg' = lg := ⟨_, _, _, _, _, _, _, _, rfl, rfl, rfl, rfl, rfl, rfl, rfl, rfl⟩
theorem start_base {h₀ h : Heap} {L : Addr} {P : Params} {ho hdd : Addr} {hc : HoC} {dp sp : Int} {dt st : Tok} {a1 a2 a3 a4 a5 : Addr × Obj} {rd : Addr} {od : Obj} {t : Led}
  (N : News h₀ L h (hoL P ho hdd hc dp dt sp st (a1 :: a2 :: a3 :: a4 :: a5 :: (rd, od) :: t))) : ∃ bs, bs = t ∧ News h₀ L h (hoL P ho hdd hc dp dt sp st (a1 :: a2 :: a3 :: a4 :: a5 :: (rd, od) :: bs)) := ⟨_, rfl, N⟩
noncomputable def Tab (i : Nat) (ev lg : Addr) (accs : List (List Act)) (kvs kvr : List (Str × Value)) (X : Led) : Prop :=
 accs.length = i ∧ kvs.length = i ∧ kvr.length = i ∧ (∀ j, i ≤ j → j < 5 → valueAt kvs (nmAt j) = none ∧ valueAt kvr (nmAt j) = none) ∧
 ∀ j, j < i → ∃ acts z zd al nz ndt na as, accs[j]? = some acts ∧ ActsOk (5 - j) acts ∧ valueAt kvs (nmAt j) = some (.ref z) ∧ valueAt kvr (nmAt j) = some (.ref al) ∧ (z, tupO [.ref 585, .ref zd] nz) ∈ X ∧ (zd, tupO [.ref ev, .ref lg, .ref al] ndt) ∈ X ∧ (al, listOf as.toArray na) ∈ X ∧ DatAll X as (acts.map tD)
theorem Tab.zero {ev lg : Addr} {X : Led} : Tab 0 ev lg [] [] [] X := ⟨rfl, rfl, rfl, fun _ _ _ => ⟨rfl, rfl⟩, fun _ h => absurd h (by w_how)⟩
theorem Tab.succ {i : Nat} {ev lg : Addr} {accs : List (List Act)} {kvs kvr : List (Str × Value)} {X X' : Led} (h : Tab i ev lg accs kvs kvr X) (hi : i < 5) (hs : ∀ p ∈ X, p ∈ X') {acts : List Act} {z zd al : Addr} {nz ndt na : Nat} {as : List Value} (ok : ActsOk (5 - i) acts)
  (h1 : (z, tupO [.ref 585, .ref zd] nz) ∈ X') (h2 : (zd, tupO [.ref ev, .ref lg, .ref al] ndt) ∈ X') (h3 : (al, listOf as.toArray na) ∈ X') (h4 : DatAll X' as (acts.map tD)) :
  Tab (i + 1) ev lg (accs ++ [acts]) (stored kvs (nmAt i) (.ref z)) (stored kvr (nmAt i) (.ref al)) X' := by
 obtain ⟨e1, e2, e3, hn, hl⟩ := h
 obtain ⟨n1, n2⟩ := hn i (Nat.le_refl _) hi
 have ne : ∀ j, j < 5 → j ≠ i → ¬ nmAt j = nmAt i := fun j hj hne e => hne (nmAt_inj j hj i hi e)
 refine ⟨by simp [e1], by rw [PyProof.Rows.stored_absent n1]; simp [e2], by rw [PyProof.Rows.stored_absent n2]; simp [e3], fun j h5 h6 => ?_, fun j hj => ?_⟩
 ·rw [valueAt_stored n1, valueAt_stored n2, if_neg (ne j h6 (by w_how)), if_neg (ne j h6 (by w_how))]
  exact hn j (by w_how) h6
 ·rw [valueAt_stored n1, valueAt_stored n2]
  by_cases e : j = i
  ·subst e
   exact ⟨acts, z, zd, al, nz, ndt, na, as, by rw [← e1]; simp, ok, if_pos rfl, if_pos rfl, h1, h2, h3, h4⟩
  ·rw [if_neg (ne j (by w_how) e), if_neg (ne j (by w_how) e)]
   obtain ⟨acts', z', zd', al', nz', ndt', na', as', g1, g2, g3, g4, g5, g6, g7, g8⟩ := hl j (by w_how)
   exact ⟨acts', z', zd', al', nz', ndt', na', as', by rw [List.getElem?_append_left (by w_how)]; exact g1, g2, g3, g4, hs _ g5, hs _ g6, hs _ g7, g8.mono hs⟩
noncomputable def actsOf (accs : List (List Act)) (nm : Str) : List Act := accs.getD (5 - wtN nm) []
theorem actsOf_at {accs : List (List Act)} {j : Nat} {acts : List Act} (hj : j < 5) (h : accs[j]? = some acts) : actsOf accs (nmAt j) = acts := by
 unfold actsOf
 rw [nmAt_wt j hj, show 5 - (5 - j) = j by w_how, List.getD_eq_getElem?_getD, h, Option.getD_some]
theorem Tab.ok {ev lg : Addr} {accs : List (List Act)} {kvs kvr : List (Str × Value)} {X : Led} (h : Tab 5 ev lg accs kvs kvr X) : ∀ nm ∈ sNames, ActsOk (wtN nm) (actsOf accs nm) := fun nm hn => by
 obtain ⟨j, hj, rfl⟩ := nmAt_of hn
 obtain ⟨acts, z, zd, al, nz, ndt, na, as, g1, g2, _⟩ := h.2.2.2.2 j hj
 rw [actsOf_at hj g1, nmAt_wt j hj]
 exact g2
theorem Tab.cmds {prog : Program} {w : World} {ev lg : Addr} {hc : HoC} {accs : List (List Act)} {kvs kvr kvt : List (Str × Value)} {X r : Led} {oc ot : Obj} (h : Tab 5 ev lg accs kvs kvr X) (hs : ∀ p ∈ X, p ∈ r) (h1 : (hc.cm, oc) ∈ r) (d1 : oc.IsDictOf (strKind prog w) kvs) (s1 : (hc.cm == sysModules) = false)
  (h2 : (hc.tl, ot) ∈ r) (d2 : ot.IsDictOf (strKind prog w) kvt) (s2 : (hc.tl == sysModules) = false) (hv : valueAt kvt "run" = some (.ref 592)) : Cmds prog w ev lg hc (actsOf accs) r :=
 ⟨⟨oc, kvs, h1, d1, s1, fun nm hn => by
  obtain ⟨j, hj, rfl⟩ := nmAt_of hn
  obtain ⟨acts, z, zd, al, nz, ndt, na, as, g1, g2, g3, g4, g5, g6, g7, g8⟩ := h.2.2.2.2 j hj
  exact ⟨z, zd, al, nz, ndt, na, as, g3, hs _ g5, hs _ g6, hs _ g7, by rw [actsOf_at hj g1]; exact g8.mono hs⟩⟩, ot, kvt, h2, d2, s2, hv⟩
theorem Tab.rws {prog : Program} {w : World} {ev lg rd : Addr} {accs : List (List Act)} {kvs kvr : List (Str × Value)} {X r : Led} {od : Obj} (h : Tab 5 ev lg accs kvs kvr X) (hs : ∀ p ∈ X, p ∈ r) (h1 : (rd, od) ∈ r) (d1 : od.IsDictOf (strKind prog w) kvr) : Rws prog w rd (actsOf accs) r :=
 ⟨od, kvr, h1, d1, fun nm hn => by
  obtain ⟨j, hj, rfl⟩ := nmAt_of hn
  obtain ⟨acts, z, zd, al, nz, ndt, na, as, g1, g2, g3, g4, g5, g6, g7, g8⟩ := h.2.2.2.2 j hj
  exact ⟨al, na, as, g4, hs _ g7, by rw [actsOf_at hj g1]; exact g8.mono hs⟩⟩
theorem dict_nm {prog : Program} {w : World} {o : Obj} {kvs : List (Str × Value)} (_ : o.IsDictOf (strKind prog w) kvs) : ∃ o', o' = o := ⟨_, rfl⟩
noncomputable abbrev L1 (P : Params) (ho hdd : Addr) (hc : HoC) (dt st : Tok) (rd : Addr) (ot oi ov oc of od : Obj) (bs : Led) : Led := hoL P ho hdd hc 0 dt 0 st ((hc.tl, ot) :: (hc.il, oi) :: (hc.vr, ov) :: (hc.cm, oc) :: (hc.fi, of) :: (rd, od) :: bs)
noncomputable def J1 (prog : Program) (w : World) (ev lg ho hdd : Addr) (hc : HoC) (dt st : Tok) (rd : Addr) (ot oi ov oc of od : Obj) (bs : Led) (I : Addr) (i : Nat) (l : Led) : Prop :=
 ∃ kvs kvr oc' od' accs X, l = L1 w.params ho hdd hc dt st rd ot oi ov oc' of od' (X ++ bs) ∧ Tab i ev lg accs kvs kvr X ∧ oc'.IsDictOf (strKind prog w) kvs ∧ od'.IsDictOf (strKind prog w) kvr ∧ New (L1 w.params ho hdd hc dt st rd ot oi ov oc of od bs) X ∧ (∀ p ∈ X, p.1 ≠ I) ∧ ∀ p ∈ L1 w.params ho hdd hc dt st rd ot oi ov oc of od bs, p.1 < I

end
theorem In_F11d.in_F11d : True := trivial
noncomputable section
open In_F11d Off9 Noi9
section
variable {prog : Program} {w : World} {ev ed lg er ho hdd bk : Addr} {hc : HoC} {mt r add l : Led} {a : EvS} {errs : List Str} {B : Bk}
theorem Bo.sub (H : Bo prog w ev ed lg er ho hdd bk hc mt r a errs B l) : (∀ p ∈ r, p ∈ l) ∧ ∀ p ∈ mt, p ∈ l := by
 obtain ⟨c, es, ne, dt, spent, st, C, h1, h2, h3, h4, h5, h6, rfl⟩ := H
 constructor
 ·intro p hp; simp [wL, hoL, evL, bkL, hp]
 ·intro p hp; simp [wL, hoL, evL, bkL, hp]
theorem Bo.put (H : Bo prog w ev ed lg er ho hdd bk hc [] r a errs B l) (hm : ∀ p ∈ mt, ∀ q ∈ l, q.1 ≠ p.1) : ∃ l', Bo prog w ev ed lg er ho hdd bk hc mt r a errs B l' ∧ ∀ p ∈ l', p ∈ mt ++ l := by
 obtain ⟨c, es, ne, dt, spent, st, C, h1, h2, h3, h4, h5, h6, rfl⟩ := H
 have hm' : ∀ p ∈ mt, p.1 ∉ [ev, ed, lg, er, ho, hdd, c.q, c.i] ∧ p.1 ∉ [bk, C.rw, C.er, C.lg] := by
  intro p hp
  have hI := hm p hp
  simp only [wL, hoL, evL, bkL, List.forall_mem_cons, List.nil_append] at hI
  obtain ⟨i1, i2, i3, i4, i5, i6, i7, i8, i9, i10, i11, i12, i13⟩ := hI
  rw [h1] at i8
  simp only [List.mem_cons, List.not_mem_nil, or_false, not_or]
  exact ⟨⟨Ne.symm i3, Ne.symm i4, Ne.symm i7, Ne.symm i8, Ne.symm i1, Ne.symm i2, Ne.symm i5, Ne.symm i6⟩, Ne.symm i9, Ne.symm i10, Ne.symm i11, Ne.symm i12⟩
 refine ⟨_, ⟨c, es, ne, dt, spent, st, C, h1, ⟨h2.ce, h2.nd, fun p hp => ?_⟩, h3, h4, ⟨h5.nd, fun p hp => ?_⟩, h6, rfl⟩, ?_⟩
 ·simp only [bkL, List.mem_cons, List.mem_append] at hp
  rcases hp with hp | hp | hp | hp | hp | hp
  ·exact h2.off p (by simp [bkL, hp])
  ·exact h2.off p (by simp [bkL, hp])
  ·exact h2.off p (by simp [bkL, hp])
  ·exact h2.off p (by simp [bkL, hp])
  ·exact (hm' p hp).1
  ·exact h2.off p (by simp [bkL, hp])
 ·rcases List.mem_append.mp hp with hp | hp
  ·exact (hm' p hp).2
  ·exact h5.off p hp
 ·dsimp only [wL, hoL, evL, bkL, List.cons_append, List.nil_append]
  kqd_sub
theorem Bo.take (H : Bo prog w ev ed lg er ho hdd bk hc mt r a errs B l) (hr : ∀ p ∈ mt, ∀ q ∈ r, q.1 ≠ p.1) : ∃ l', Bo prog w ev ed lg er ho hdd bk hc [] r a errs B l' ∧ (∀ p ∈ l', p ∈ l) ∧ ∀ p ∈ mt, ∀ q ∈ l', q.1 ≠ p.1 := by
 obtain ⟨c, es, ne, dt, spent, st, C, h1, h2, h3, h4, h5, h6, rfl⟩ := H
 refine ⟨_, ⟨c, es, ne, dt, spent, st, C, h1, ⟨h2.ce, h2.nd, fun p hp => h2.off p ?_⟩, h3, h4, ⟨h5.nd, fun p hp => h5.off p (List.mem_append_right _ hp)⟩, h6, rfl⟩, ?_, fun p hp => ?_⟩
 ·simp only [bkL, List.mem_cons, List.mem_append, List.not_mem_nil, false_or] at hp ⊢
  rcases hp with hp | hp | hp | hp | hp <;> simp [hp]
 ·dsimp only [wL, hoL, evL, bkL, List.cons_append, List.nil_append]
  kqd_sub
 ·have o1 := h2.off p (by simp [bkL, hp])
  have o2 := h5.off p (List.mem_append_left _ hp)
  simp only [List.mem_cons, List.not_mem_nil, or_false, not_or] at o1 o2
  simp only [wL, hoL, evL, bkL, List.forall_mem_cons, List.nil_append]
  rw [h1]
  obtain ⟨i1, i2, i3, i4, i5, i6, i7, i8⟩ := o1
  obtain ⟨j1, j2, j3, j4⟩ := o2
  exact ⟨Ne.symm i5, Ne.symm i6, Ne.symm i1, Ne.symm i2, Ne.symm i7, Ne.symm i8, Ne.symm i3, Ne.symm i4, Ne.symm j1, Ne.symm j2, Ne.symm j3, Ne.symm j4, hr p hp⟩
theorem Bo.more (H : Bo prog w ev ed lg er ho hdd bk hc [] r a errs B l) (hn : New l add) : ∃ l', Bo prog w ev ed lg er ho hdd bk hc [] (add ++ r) a errs B l' ∧ ∀ p ∈ l', p ∈ add ++ l := by
 obtain ⟨l', ⟨c, es, ne, dt, spent, st, C, h1, h2, h3, h4, h5, h6, rfl⟩, hl⟩ := H.put hn
 have up : ∀ p ∈ r, p ∈ add ++ r := fun p hp => List.mem_append_right _ hp
 exact ⟨_, ⟨c, es, ne, dt, spent, st, C, h1, h2, ⟨h3.q.mono up, h3.i.mono up, h3.l.mono up⟩, h4, h5, h6.mono up, rfl⟩, hl⟩
end
noncomputable def ev0 (n : Int) : EvS := ⟨n, 0, [], [], []⟩
noncomputable def bk0 (n : Int) : Bk := ⟨n, 0, [], [], []⟩
theorem turned0 (n : Int) : Turned 0 (ev0 n) [] (bk0 n) := by
 refine ⟨⟨rfl, rfl, rfl, rfl, fun _ h => (nomatch h), List.Pairwise.nil, fun _ h => (nomatch h), rfl, List.Perm.refl _, List.Pairwise.nil⟩, ⟨fun _ h => (nomatch h), fun _ h => (nomatch h)⟩, ⟨List.nodup_nil, fun _ h => (nomatch h), Int.le_refl _, fun _ h => (nomatch h), fun _ h => (nomatch h), Nat.le_refl _, (by show (0 : Int) + ((0 : Nat) : Int) ≤ _; decide), (by show 0 + 2 * 0 ≤ _; decide), (by show 0 ≤ _; decide)⟩, Nat.le_refl _⟩
theorem start_nodup {gl be rw bk lg ev ed cq ci ce rd hdd ho tl il vr cm fi : Nat} (nb : [gl, be, rw, bk, lg, ev, ed, cq, ci, ce].Nodup) (lr : ∀ x ∈ [gl, be, rw, bk, lg, ev, ed, cq, ci, ce], x < rd) (q1 : rd < hdd) (q2 : hdd < ho) (q3 : ho < tl) (q4 : tl < il) (q5 : il < vr) (q6 : vr < cm) (q7 : cm < fi) :
  [fi, cm, vr, il, tl, ho, hdd, rd, gl, be, rw, bk, lg, ev, ed, cq, ci, ce].Nodup := by
 have key : ∀ {b : Nat} {l : List Nat}, l.Nodup → (∀ x ∈ l, x < b) → (b :: l).Nodup := fun {b l} h h' => List.nodup_cons.mpr ⟨fun hm => Nat.lt_irrefl _ (h' _ hm), h⟩
 have up : ∀ {b b' : Nat} {l : List Nat}, (∀ x ∈ l, x < b) → b < b' → ∀ x ∈ b :: l, x < b' := fun {b b' l} h h' x hx => by
  rcases List.mem_cons.mp hx with rfl | hx
  ·exact h'
  ·exact Nat.lt_trans (h x hx) h'
 have u0 := up lr q1
 have n0 := key nb lr
 have n1 := key n0 u0
 have u1 := up u0 q2
 have n2 := key n1 u1
 have u2 := up u1 q3
 have n3 := key n2 u2
 have u3 := up u2 q4
 have n4 := key n3 u3
 have u4 := up u3 q5
 have n5 := key n4 u4
 have u5 := up u4 q6
 have n6 := key n5 u5
 have u6 := up u5 q7
 have n7 := key n6 u6
 exact n7
theorem off_app {a b : Led} {s : List Nat} (h : ∀ x ∈ a.map (·.1), x ∉ s) (h' : ∀ p ∈ b, p.1 ∉ s) : ∀ p ∈ a ++ b, p.1 ∉ s := fun p hp => (List.mem_append.mp hp).elim (fun q => h _ (List.mem_map_of_mem q)) (h' p)
theorem start_bo {prog : Program} {w : World} {ev ed lg ho hdd bk rd gl be rw : Addr} {c : EvC} {hc : HoC} {dt st t1 t2 : Tok} {ot oi ov oc of od ob : Obj} {X : Led} {n : Int} {n1 n2 n3 n4 : Nat} {h₀ h : Heap} {L : Addr}
  (N : News h₀ L h (L1 w.params ho hdd hc dt st rd ot oi ov oc of od (X ++ ((gl, listOf (List.toArray []) n1) :: (be, listOf (List.toArray []) n2) :: (rw, listOf (List.toArray []) n3) :: (bk, ob) :: (lg, listOf (List.toArray []) n4) :: (ev, instObj 265 ed) :: (ed, dictOf (evD w.params c.k n c.tn c.q c.i c.er 0 c.tm) 5) :: (c.q, listOf c.qs.toArray c.nq) :: (c.i, listOf c.is.toArray c.ni) :: (c.er, listOf c.ls.toArray c.nl) :: []))))
  (nd : [hc.fi, hc.cm, hc.vr, hc.il, hc.tl, ho, hdd, rd, gl, be, rw, bk, lg, ev, ed, c.q, c.i, c.er].Nodup)
  (hX : ∀ p ∈ X, p.1 ∉ [ho, hdd, hc.tl, hc.il, hc.vr, hc.cm, hc.fi, rd, gl, be, rw, bk, lg, ev, ed, c.q, c.i, c.er])
  (hq : c.qs = []) (hi : c.is = []) (hl : c.ls = []) (hb : ob.IsDictOf (strKind prog w) [("now", .int n t1), ("count", .int 0 t2), ("rows", .ref rw), ("errors", .ref be), ("log", .ref gl)]) :
  ∃ l, Bo prog w ev ed lg c.er ho hdd bk hc [] ((hc.tl, ot) :: (hc.il, oi) :: (hc.vr, ov) :: (hc.cm, oc) :: (hc.fi, of) :: (rd, od) :: X) (ev0 n) [] (bk0 n) l ∧ News h₀ L h l := by
 refine ⟨_, ⟨{ c with ls := [], nl := n4 }, c.ls, c.nl, dt, 0, st, ⟨rw, be, gl, ob, t1, t2, [], [], [], n3, n2, n1⟩, rfl, ⟨rfl, ?_, ?_⟩, ⟨by rw [hq]; exact .nil, by rw [hi]; exact .nil, .nil⟩, by rw [hl]; exact .nil, ⟨?_, ?_⟩, ⟨hb, .nil, .nil, .nil⟩, rfl⟩, fun p hp => N p ?_⟩
 ·exact pk_nodup (ix := [13, 14, 12, 17, 5, 6, 15, 16]) nd rfl (by decide)
 ·exact off_app (a := [(bk, _), (rw, _), (be, _), (gl, _), (hc.tl, _), (hc.il, _), (hc.vr, _), (hc.cm, _), (hc.fi, _), (rd, _)]) (pk_off (ix := [11, 10, 9, 8, 4, 3, 2, 1, 0, 7]) (jx := [13, 14, 12, 17, 5, 6, 15, 16]) nd rfl rfl) fun p hp hm => hX p hp (pk_sub (ix := [13, 14, 12, 17, 0, 1, 15, 16]) rfl hm)
 ·exact pk_nodup (ix := [11, 10, 9, 8]) nd rfl (by decide)
 ·exact off_app (a := [(hc.tl, _), (hc.il, _), (hc.vr, _), (hc.cm, _), (hc.fi, _), (rd, _)]) (pk_off (ix := [4, 3, 2, 1, 0, 7]) (jx := [11, 10, 9, 8]) nd rfl rfl) fun p hp hm => hX p hp (pk_sub (ix := [11, 10, 9, 8]) rfl hm)
 ·revert p hp
  dsimp only [wL, hoL, evL, bkL, L1, List.nil_append]
  kqd_sub
structure J3 (prog : Program) (w : World) (ev ed lg er ho hdd bk rd : Addr) (hc : HoC) (acts : Str → List Act) (j : Nat) (r : Led) (a : EvS) (errs : List Str) (B : Bk) (l : Led) : Prop where
 cm : Cmds prog w ev lg hc acts r
 rw : Rws prog w rd acts r
 tn : Turned j a errs B
 bo : Bo prog w ev ed lg er ho hdd bk hc [] r a errs B l
noncomputable def four : List Act := [(0, 1, Str.ofString "r"), (0, 0, Str.ofString "r"), (4, 3, Str.ofString ""), (5, 1, Str.ofString "")]
theorem four_ok : ∀ t ∈ four, DeedOk t := by unfold DeedOk; decide +kernel
theorem turn_use {prog : Program} {w : World} {mean : ExcName → Option Value} {mg mb : Str → Option Value} {mt r l : Led} {ev ed lg er ho hdd bk rd ac na j : Nat} {hc : HoC} {acts : Str → List Act} {a : EvS} {errs : List Str} {B : Bk} {k wt : Int} {x : Str} {t1 t2 t3 : Tok} {h₀ h : Heap} {L : Addr}
  (ok : ∀ nm ∈ sNames, ActsOk (wtN nm) (acts nm)) (J : J3 prog w ev ed lg er ho hdd bk rd hc acts j r a errs B l) (hm : ∀ p ∈ mt, ∀ q ∈ l, q.1 ≠ p.1) (hac : (ac, tupO [.int k t1, .int wt t2, .str x t3] na) ∈ r) (hok : DeedOk (k, wt, x)) (hj : j + 1 ≤ 20) (N : News h₀ L h (mt ++ l)) :
  ∃ l', News h₀ L h l' ∧ DoesX prog w mean mg mb 626 [.ref ho, .ref ev, .ref lg, .ref bk, .ref rd, .ref ac] 28 260 l'
   (fun v l'' => v = .bool true ∧ (∀ p ∈ mt, p ∈ l'') ∧ ∃ r' a' errs' B' l₁, (∀ p ∈ r, p ∈ r') ∧ (∀ p ∈ l₁, p ∈ l'') ∧ J3 prog w ev ed lg er ho hdd bk rd hc acts (if k < 5 then j + 1 else j) r' a' errs' B' l₁ ∧ (∀ p ∈ mt, ∀ q ∈ l₁, q.1 ≠ p.1) ∧
    (5 ≤ k → wt = 1 → B.rows ≠ [] → pot a' < pot a)) (fun _ _ => False) := by
 obtain ⟨l', hB, hs⟩ := J.bo.put hm
 have hk0 : 0 ≤ k := by have := hok.1; dsimp only at this; w_how
 refine ⟨l', fun p hp => N p (hs p hp), (law_turn_does J.cm ok J.rw hB J.tn hj hac hk0 hok.2).conseq (fun p hp => hp) ?_ fun _ _ h => h.elim⟩
 rintro v l'' ⟨rfl, a', errs', B', add, hT, hB', hlt, hoff⟩
 have up : ∀ p ∈ r, p ∈ add ++ r := fun p hp => List.mem_append_right _ hp
 obtain ⟨l₁, hB1, h1, h2⟩ := hB'.take (fun p hp q hq => by
  rcases List.mem_append.mp hq with hq | hq
  ·exact Ne.symm (hoff q hq p hp)
  ·exact hm p hp q (J.bo.sub.1 q hq))
 exact ⟨l'', fun p hp => hp, rfl, hB'.sub.2, _, a', errs', B', l₁, up, h1, ⟨J.cm.mono up, J.rw.mono up, hT, hB1⟩, h2, hlt⟩
theorem J3.more {prog : Program} {w : World} {ev ed lg er ho hdd bk rd j : Nat} {hc : HoC} {acts : Str → List Act} {r l add : Led} {a : EvS} {errs : List Str} {B : Bk} (J : J3 prog w ev ed lg er ho hdd bk rd hc acts j r a errs B l) (hn : New l add) :
  ∃ l', J3 prog w ev ed lg er ho hdd bk rd hc acts j (add ++ r) a errs B l' ∧ ∀ p ∈ l', p ∈ add ++ l := by
 obtain ⟨l', hB, hs⟩ := J.bo.more hn
 have up : ∀ p ∈ r, p ∈ add ++ r := fun p hp => List.mem_append_right _ hp
 exact ⟨l', ⟨J.cm.mono up, J.rw.mono up, J.tn, hB⟩, hs⟩
theorem J3.to {prog : Program} {w : World} {ev ed lg er ho hdd bk rd j j' : Nat} {hc : HoC} {acts : Str → List Act} {r l : Led} {a : EvS} {errs : List Str} {B : Bk} (J : J3 prog w ev ed lg er ho hdd bk rd hc acts j r a errs B l) (h : j ≤ j') :
  J3 prog w ev ed lg er ho hdd bk rd hc acts j' r a errs B l := ⟨J.cm, J.rw, J.tn.mono h, J.bo⟩
noncomputable def WStep (h₀ : Heap) (L : Addr) (m : Str → Option Value) (s : Shared) (J : Nat → Led → Prop) (n : Nat) (f : Flow) (s₃ : Shared) : Prop :=
 f = .next ∧ ∃ h' tk n' news₂, s₃ = { s with heap := h', toks := tk } ∧ Fr h₀ L h' m ∧ News h₀ L h' news₂ ∧ n' < n ∧ J n' news₂
theorem while_J {prog : Program} {w : World} {A : Around} {E : Value → Shared → Prop} {s : Shared} {env : Env} {h₀ : Heap} {L : Addr} {m : Str → Option Value} {news : Led} {test : Expr} {body : List Stmt} {pos : Pos} {Q : Flow → Shared → Prop} (J : Nat → Led → Prop) {n₀ : Nat}
  (F : Fr h₀ L s.heap m) (N : News h₀ L s.heap news) (hJ : J n₀ news)
  (turn : ∀ n news₁ h₁ tk₁, Fr h₀ L h₁ m → News h₀ L h₁ news₁ → J n news₁ →
   wpAny (model prog w) A (isTrue test env (eval test env)) (fun b s₂ =>
    if b = true then wpAny (model prog w) A (execs body env) (WStep h₀ L m s J n) E s₂ else Q .next s₂) E { s with heap := h₁, toks := tk₁ })
  (hE : PassesOwn (model prog w) A env E := by passes_own) :
  wpAny (model prog w) A (exec (.While test body [] pos) env) Q E s := by
 refine While_inv (fun n m₁ news₁ => m₁ = m ∧ J n news₁) F N ⟨rfl, hJ⟩ ?_ hE
 rintro n m₁ news₁ h₁ tk₁ F₁ N₁ ⟨rfl, J₁⟩
 refine wpAny_mono (turn n news₁ h₁ tk₁ F₁ N₁ J₁) (fun b s₂ h₂ => ?_) fun _ _ e => e
 cases b with
 |false => simpa using h₂
 |true =>
  simp only [if_true] at h₂ ⊢
  refine wpAny_mono h₂ (fun f s₃ h₃ => ?_) fun _ _ e => e
  obtain ⟨rfl, h', tk, n', news₂, rfl, F₂, N₂, hn, J₂⟩ := h₃
  exact ⟨rfl, h', tk, _, news₂, n', rfl, F₂, N₂, hn, rfl, J₂⟩
theorem led_5 {h₀ h : Heap} {L : Addr} {p1 p2 p3 p4 p5 : Addr × Obj} {l : Led} (_ : News h₀ L h (p1 :: p2 :: p3 :: p4 :: p5 :: l)) : ∃ l', l' = [p1, p2, p3, p4, p5] := ⟨_, rfl⟩

end
theorem In_F12.in_F12 : True := trivial
noncomputable section
open In_F12 Rm9
noncomputable def Asc : List Nat → Prop
 |a :: b :: l => b < a ∧ Asc (b :: l)
 |_ => True
theorem Asc.all {a : Nat} : ∀ {l : List Nat}, Asc (a :: l) → ∀ b ∈ l, b < a
 |[], _, _, h => nomatch h
 |c :: l, h, b, hb => by
  rcases List.mem_cons.mp hb with rfl | hb
  ·exact h.1
  ·exact Nat.lt_trans (Asc.all h.2 b hb) h.1
theorem Asc.lt : ∀ {l : List Nat} (_ : Asc l) (i j : Nat) (_ : (decide (i < j) && decide (j < l.length)) = true), l.getD j 0 < l.getD i 0
 |[], _, i, j, e => by simp at e
 |a :: l, h, 0, j + 1, e => by
  have hj : j < l.length := by simpa using e
  rw [List.getD_cons_zero, List.getD_cons_succ, List.getD_eq_getElem?_getD, List.getElem?_eq_getElem hj, Option.getD_some]
  exact h.all _ (List.getElem_mem hj)
 |a :: l, h, i + 1, j + 1, e => by
  rw [List.getD_cons_succ, List.getD_cons_succ]
  refine Asc.lt (l := l) ?_ i j (by simpa using e)
  cases l with
  |nil => trivial
  |cons b l => exact h.2
 |a :: l, h, i, 0, e => by simp at e
theorem Asc.ne {l : List Nat} (h : Asc l) (i j : Nat) (e : (decide (i ≠ j) && (decide (i < l.length) && decide (j < l.length))) = true) : l.getD i 0 ≠ l.getD j 0 := by
 simp only [Bool.and_eq_true, decide_eq_true_eq] at e
 rcases Nat.lt_or_gt_of_ne e.1 with q | q
 ·exact Nat.ne_of_gt (h.lt i j (by simp [q, e.2.2]))
 ·exact Nat.ne_of_lt (h.lt j i (by simp [q, e.2.1]))
theorem lt_ltM {news l : Led} {d : Addr} (h : ∀ p ∈ news, @LT.lt Nat _ p.1 d) (e : l.map Prod.fst = news.map Prod.fst) : ∀ p ∈ l, @LT.lt Nat _ p.1 d := fun p hp => by
 have h1 : p.1 ∈ news.map Prod.fst := e ▸ List.mem_map_of_mem hp
 obtain ⟨q, hq, h2⟩ := List.mem_map.mp h1
 exact h2 ▸ h q hq
theorem nodup_ltM {news l : Led} {d : Addr} {o : Obj} (h : ∀ p ∈ news, @LT.lt Nat _ p.1 d) (e : l.map Prod.fst = news.map Prod.fst) (n : (l.map Prod.fst).Nodup) : (((d, o) :: l).map Prod.fst).Nodup :=
 List.nodup_cons.mpr ⟨fun hm => by
  obtain ⟨q, hq, h2⟩ := List.mem_map.mp hm
  exact absurd h2 (Nat.ne_of_lt (lt_ltM h e q hq)), n⟩
theorem my_itemE {prog : Program} {w : World} {A : Around} {E : Value → Shared → Prop} {s : Shared} {h₀ : Heap} {L : Addr} {news r : Led} {l : Addr} {vs : List Value} {ds : List Dat} {d : Dat} {n : Nat} {k : Int} {u : Tok} {value slice : PySem.Expr} {Q : Value → Shared → Prop} (N : News h₀ L s.heap news) (hm : (l, listOf vs.toArray n) ∈ news) (D : DatAll r vs ds)
  (h0 : 0 ≤ k) (hk : ds[k.toNat]? = some d) (hz : ds.length < 16000000) (h : ∀ v, DatIn r v d → Q v s)
  (hs : subscripted slice false (.ref l) (.int k u) = operate [.ref l, .int k u] (getItem (.ref l) (.int k u)) := by with_unfolding_all rfl) :
  wpAny (model prog w) A (subscriptTail value slice (.ref l) (.int k u)) Q E s := by
 obtain ⟨hk', e⟩ := List.getElem?_eq_some_iff.mp hk
 subst e
 exact my_itemD N hm D h0 hk' hz h hs
noncomputable def HaltL : Prop := True
noncomputable def HaltM : Prop := (7 : Nat) = 7
theorem wrd_F12_1 : True := by
 k_with "my call ref" => ((fail_if_success (fail_if_success (have h9 := in_F12))); (((have halt9 := (by assumption : HaltL)); (with_reducible first | (show wpAny _ _ (call (Value.ref 265) _) _ _ _) | (show wpAny _ _ (call (Value.ref 534) _) _ _ _) | (show wpAny _ _ (call (Value.ref 543) _) _ _ _) | (show wpAny _ _ (call (Value.ref 564) _) _ _ _) | (show wpAny _ _ (call (Value.ref 503) _) _ _ _) | (show wpAny _ _ (call (Value.ref 626) _) _ _ _) | (show wpAny _ _ (call (Value.ref 571) _) _ _ _)); refine Stop.out ?_)))
 k_with "my eval IfExp" => ((fail_if_success (fail_if_success (have h9 := in_F12))); (((have halt9 := (by assumption : HaltL)); refine Stop.out ?_)))
 k_with "my pyIter ref" => ((fail_if_success (fail_if_success (have h9 := in_F12))); (((have halt9 := (by assumption : HaltL)); refine Stop.out ?_)))
 k_with "my exec While Compare cons nil" => ((fail_if_success (fail_if_success (have h9 := in_F12))); (((have halt9 := (by assumption : HaltL)); refine Stop.out ?_)))
 k_with "my ite" => ((fail_if_success (fail_if_success (have h9 := in_F12))); (((have halt9 := (by assumption : HaltL)); first | (with_reducible refine ite_ff ?_) | (with_reducible refine ite_tt ?_))))
 k_with "my exec For Name List cons nil" => ((fail_if_success (fail_if_success (have h9 := in_F12))); (((have halt9 := (by assumption : HaltL)); refine Stop.out ?_)))
 k_with "my newTuple" => ((fail_if_success (fail_if_success (have h9 := in_F12))); ((k_here; (have halt9 := (by assumption : HaltL)); (with_reducible refine kup_newTuple (by k_asm) (by k_asm) ?_ ?_); rotate_left; (focus (k_dflt kmk_size)); intro D' h' F' N' l1; k_lt l1; (try k_sweep))))
 k_with "my setItem ref str" => ((fail_if_success (fail_if_success (have h9 := in_F12))); (((have halt9 := (by assumption : HaltM)); refine Stop.out ?_)))
 k_with "my subscriptTail" => ((fail_if_success (fail_if_success (have h9 := in_F12))); (((have halt9 := (by assumption : HaltM)); (with_reducible show wpAny _ _ (subscriptTail _ _ (Value.ref _) (Value.int _ _)) _ _ _); refine Stop.out ?_)))
 trivial
noncomputable def lawB : { q : List Stmt // q = bodyI (stmI PySem.Challenge.rw_np0139_01.prog.main.body 49) } := by
 refine' ⟨_, ?h⟩
 case h =>
  dsimp only [PySem.Challenge.rw_np0139_01, PySem.Challenge.pw_np0139_01, stmI, List.drop, List.take, bodyI]
  exact rfl
noncomputable def lawS : { q : Scope // q = scopeI (stmI PySem.Challenge.rw_np0139_01.prog.main.body 49) } := by
 refine' ⟨_, ?h⟩
 case h =>
  dsimp only [PySem.Challenge.rw_np0139_01, PySem.Challenge.pw_np0139_01, stmI, List.drop, List.take, scopeI]
  exact rfl
noncomputable abbrev lawV (L fa : Addr) (cdv : Value) : Env := envOf (Str.ofString "law") lawS.1 L fa cdv
noncomputable def LawW (w : World) (mean : ExcName → Option Value) (mg mb : Str → Option Value) (h₀ h₁ : Heap) (L sl fa : Addr) (cdv : Value) (svs : List Value) (script : List Int) (s : Shared) (Q : Flow → Shared → Prop) (E : Value → Shared → Prop) : Prop :=
 Below callerA h₀ [] h₀ → Fr h₀ L h₁ (fun x => List.lookup x [(Str.ofString "script", Value.ref sl)].reverse) → (K9 w.params).In h₀ → Top view9 lse mean mg mb h₀ → News h₀ L h₁ [] → h₀.IsList sl svs.toArray → IntsAre svs script → ¬ 63 < script.length →
 (∀ h' tk m', Fr h₀ L h' m' → Q (.ret (.bool true)) { s with heap := h', toks := tk }) → PassesOwn (model PySem.Challenge.rw_np0139_01.row.prog w) (callerA.deeper (lawV L fa cdv)) (lawV L fa cdv) E →
 wpAny (model PySem.Challenge.rw_np0139_01.row.prog w) (callerA.deeper (lawV L fa cdv)) (execs lawB.1 (lawV L fa cdv)) Q E { s with heap := h₁, toks := s.toks + [(Str.ofString "script", Value.ref sl)].length }
namespace law_h
noncomputable abbrev T9 : Type := World × (ExcName → Option Value) × (Str → Option Value) × (Str → Option Value) × Heap × Heap × Addr × Addr × Addr × Value × List Value × List Int × Shared × (Flow → Shared → Prop) × (Value → Shared → Prop)
noncomputable def P9 : T9 → Prop := cur fun w => cur fun mean => cur fun mg => cur fun mb => cur fun h₀ => cur fun h₁ => cur fun L => cur fun sl => cur fun fa => cur fun cdv => cur fun svs => cur fun script => cur fun s => cur fun Q => fun E => LawW w mean mg mb h₀ h₁ L sl fa cdv svs script s Q E
theorem ex9 : ∃ x, P9 x → ∀ y, P9 y := drinker P9 (w0, fun _ => none, fun _ => none, fun _ => none, default, default, 0, 0, 0, default, [], [], {}, fun _ _ => True, fun _ _ => True)
@[irreducible] def c9 : T9 := Classical.choose ex9
@[irreducible] def w := c9.1
@[irreducible] def mean := c9.2.1
@[irreducible] def mg := c9.2.2.1
@[irreducible] def mb := c9.2.2.2.1
@[irreducible] def h₀ := c9.2.2.2.2.1
@[irreducible] def h₁ := c9.2.2.2.2.2.1
@[irreducible] def L := c9.2.2.2.2.2.2.1
@[irreducible] def sl := c9.2.2.2.2.2.2.2.1
@[irreducible] def fa := c9.2.2.2.2.2.2.2.2.1
@[irreducible] def cdv := c9.2.2.2.2.2.2.2.2.2.1
@[irreducible] def svs := c9.2.2.2.2.2.2.2.2.2.2.1
@[irreducible] def script := c9.2.2.2.2.2.2.2.2.2.2.2.1
@[irreducible] def s := c9.2.2.2.2.2.2.2.2.2.2.2.2.1
@[irreducible] def Q := c9.2.2.2.2.2.2.2.2.2.2.2.2.2.1
@[irreducible] def E := c9.2.2.2.2.2.2.2.2.2.2.2.2.2.2
theorem core9 : LawW w mean mg mb h₀ h₁ L sl fa cdv svs script s Q E := by
 refine wr_z (by
 intro K0 F0 KX T0 N0 hSL hInts hlen hQ hE
 dsimp only [lawV, lawB, lawS] at hE ⊢
 have halt : HaltL := trivial
 f_tup
 k_steps
 refine Stop.mk ?_
 f_tup
 refine mono_int ?_ ?_
 ·repeat (rename HaltL => hz9; clear hz9)
  f_tup
  k_steps
  all_goals exact ⟨_, _, _, rfl, rfl⟩
 ·intro n9 t9 tk9
  f_tup
  k_steps
  refine Stop.mk ?_
  f_tup
  rename Fr _ _ _ _ => F9
  rename News _ _ _ _ => N9
  refine Does.use K0 F9 (by k_asm) (by k_asm) N9 rfl events_make_does (by ktr_room) (by ktr_units) ?_
  clear F9 N9
  intro v9 h9 tk9 news9 F9 N9
  (km_mul ev; km_mul ed; km_mul c; k_extra "st"; k_extra "sr"; km_mul nd1; km_mul off1; km_mul cq; km_mul ci; km_mul cl; k_extra "sr")
  f_tup
  f_tup
  k_steps
  refine Stop.mk ?_
  f_tup
  rename Fr _ _ _ _ => F9
  rename News _ _ _ _ => N9
  refine Does.use K0 F9 (by k_asm) (by k_asm) N9 rfl small_make_does (by ktr_room) (by ktr_units) ?_
  clear F9 N9
  intro v8 h8 tk8 news8 F8 N8
  (km_mul ho; km_mul hdd; km_mul hc; km_mul dt; km_mul st; km_mul ot; km_mul oi; km_mul ov; km_mul oc; km_mul of; k_extra "st"; k_extra "sr"; k_extra "st"; k_extra "sr"; km_mul q1; km_mul q2; km_mul q3; km_mul q4; km_mul q5; km_mul q6; km_mul q7; km_mul d1; km_mul s1; km_mul d2; km_mul s2; km_mul d3; km_mul s3; km_mul d4; intro s4)
  f_tup
  f_tup
  (refine arr ?_ (start_names N8); km_mul rd; km_mul od; km_mul gl; km_mul be; km_mul rw; km_mul bk; km_mul ob; km_mul lg; k_extra "st"; k_extra "sr"; k_extra "st"; k_extra "sr"; k_extra "st"; k_extra "sr"; k_extra "st"; k_extra "sr"; k_extra "st"; k_extra "sr"; k_extra "st"; k_extra "sr"; k_extra "st"; k_extra "sr"; k_extra "sr")
  rename Obj.IsDictOf _ ob _ => hbk
  rename Obj.IsDictOf (strKind _ _) od _ => hrd
  f_tup
  (refine arr ?_ (start_base N8); km_mul bs; km_mul hbs; intro N7)
  have nbs : (bs.map (·.1)).Nodup := by
   rw [hbs]
   exact nodup_ltM (by with_reducible assumption) (by rfl) (nodup_ltM (by with_reducible assumption) (by rfl) (nodup_ltM (by with_reducible assumption) (by rfl) (nodup_ltM (by with_reducible assumption) (by rfl) (nodup_ltM (by with_reducible assumption) (by rfl) (pk_nodup (ix := [0, 1, 3, 4, 2]) nd1 rfl (by decide))))))
  have lrd : ∀ p ∈ bs, @LT.lt Nat _ p.1 rd := by
   rw [hbs]
   exact lt_ltM (by with_reducible assumption) (by rfl)
  have keep : @LT.lt Nat _ rd hdd ∧ @LT.lt Nat _ hdd ho ∧ @LT.lt Nat _ ho hc.tl ∧ @LT.lt Nat _ hc.tl hc.il ∧ @LT.lt Nat _ hc.il hc.vr ∧ @LT.lt Nat _ hc.vr hc.cm ∧ @LT.lt Nat _ hc.cm hc.fi := ⟨q1 _ (.head _), q2, q3, q4, q5, q6, q7⟩
  clear N8 q1 nd1 off1
  repeat (rename _ < _ => hz9; clear hz9)
  revert lrd
  repeat (with_reducible rename LtAll _ _ => hz9; clear hz9)
  intro lrd
  f_tup
  (revert keep; km_mul q1; km_mul q2; km_mul q3; km_mul q4; km_mul q5; km_mul q6; intro q7)
  have asc : Asc [hc.fi, hc.cm, hc.vr, hc.il, hc.tl, ho, hdd, rd] := ⟨q7, q6, q5, q4, q3, q2, q1, trivial⟩
  have t1 : Apart hdd hc.tl := asc.ne 6 4 rfl
  have t2 : Apart ho hc.tl := asc.ne 5 4 rfl
  have t3 : Apart hc.il hc.tl := asc.ne 3 4 rfl
  have t4 : Apart hc.vr hc.tl := asc.ne 2 4 rfl
  have t5 : Apart hc.cm hc.tl := asc.ne 1 4 rfl
  have t6 : Apart hc.fi hc.tl := asc.ne 0 4 rfl
  have t7 : Apart rd hc.tl := asc.ne 7 4 rfl
  have t8 : ∀ p ∈ bs, p.1 ≠ hc.tl := fun p hp => Nat.ne_of_lt (Nat.lt_trans (lrd p hp) (asc.lt 4 7 rfl))
  dsimp only [hoL] at N7
  f_tup
  k_steps
  refine Stop.mk ?_
  f_tup
  rename IsRange _ _ _ _ _ _ _ _ => hR9
  rename Fr _ _ _ _ => F6
  rename News _ _ _ _ => N6
  rename Obj.IsDictOf _ _ (stored _ _ _) => hot
  f_tup
  (refine arr ?_ (dict_nm hot); km_mul ot2; k_extra "sr")
  have g1 : Apart hdd rd := asc.ne 6 7 rfl
  have g2 : Apart ho rd := asc.ne 5 7 rfl
  have g3 : Apart hc.tl rd := asc.ne 4 7 rfl
  have g4 : Apart hc.il rd := asc.ne 3 7 rfl
  have g5 : Apart hc.vr rd := asc.ne 2 7 rfl
  have g6 : Apart hc.cm rd := asc.ne 1 7 rfl
  have g7 : Apart hc.fi rd := asc.ne 0 7 rfl
  have g8 : ∀ p ∈ bs, p.1 ≠ rd := fun p hp => Nat.ne_of_lt (lrd p hp)
  have g9 : Apart rd hdd := asc.ne 7 6 rfl
  have g10 : Apart ho hdd := asc.ne 5 6 rfl
  have g11 : Apart hc.tl hdd := asc.ne 4 6 rfl
  have g12 : Apart hc.il hdd := asc.ne 3 6 rfl
  have g13 : Apart hc.vr hdd := asc.ne 2 6 rfl
  have g14 : Apart hc.cm hdd := asc.ne 1 6 rfl
  have g15 : Apart hc.fi hdd := asc.ne 0 6 rfl
  have g16 : ∀ p ∈ bs, p.1 ≠ hdd := fun p hp => Nat.ne_of_lt (Nat.lt_trans (lrd p hp) (asc.lt 6 7 rfl))
  have g17 : Apart rd hc.cm := asc.ne 7 1 rfl
  have g18 : Apart hdd hc.cm := asc.ne 6 1 rfl
  have g19 : Apart ho hc.cm := asc.ne 5 1 rfl
  have g20 : Apart hc.tl hc.cm := asc.ne 4 1 rfl
  have g21 : Apart hc.il hc.cm := asc.ne 3 1 rfl
  have g22 : Apart hc.vr hc.cm := asc.ne 2 1 rfl
  have g23 : Apart hc.fi hc.cm := asc.ne 0 1 rfl
  have g24 : ∀ p ∈ bs, p.1 ≠ hc.cm := fun p hp => Nat.ne_of_lt (Nat.lt_trans (lrd p hp) (asc.lt 1 7 rfl))
  (try (with_reducible refine unw (by assumption) ?_))
  refine rangeJ1 5 (Str.ofString "name") (J1 _ _ ev lg ho hdd hc dt st rd ot2 oi ov oc of od bs) rfl hR9 (by decide) range5 F6 N6 (fun I hI => ⟨[], [], oc, od, [], [], rfl, Tab.zero, d3, hrd, new_nil, (fun _ h => nomatch h), hI⟩) ?_ ?_
  ·intro i l I it t u h tk hi
   (km_mul kvs; km_mul kvr; km_mul oc'; km_mul od'; km_mul accs; km_mul X; k_extra "st"; k_extra "sr"; km_mul hTab; km_mul hoc; km_mul hod; km_mul hnew; km_mul hXI; intro hLI)
   intro F5 N5
   f_tup
   clear F6 N6
   have x1 : ∀ p ∈ X, p.1 ≠ rd := hnew.off (o := od) (by simp [L1, hoL])
   have x2 : ∀ p ∈ X, p.1 ≠ hdd := New.off hnew (.tail _ (.head _))
   have x3 : ∀ p ∈ X, p.1 ≠ hc.cm := hnew.off (o := oc) (by simp [L1, hoL])
   have y1 : Apart rd I := Nat.ne_of_lt (hLI (rd, od) (by simp [L1, hoL]))
   have y2 : Apart hdd I := Nat.ne_of_lt (hLI _ (.tail _ (.head _)))
   have y3 : Apart hc.cm I := Nat.ne_of_lt (hLI (hc.cm, oc) (by simp [L1, hoL]))
   have haltm : HaltM := rfl
   dsimp only [L1, hoL] at N5
   f_tup
   k_steps
   refine Stop.mk ?_
   f_tup
   refine Does.use K0 F5 (by k_asm) (by k_asm) N5 rfl law_names_does (by ktr_room) (by ktr_units) ?_
   clear F5 N5
   intro v7 h7 tk7 news7 F5 N5
   (km_mul D9; km_mul nvs; km_mul nn; k_extra "st"; k_extra "sr"; km_mul nlt; km_mul hnv; k_extra "sr")
   f_tup
   k_lt nlt
   f_tup
   k_steps
   refine Stop.mk ?_
   f_tup
   have hnk : (sNames.map Dat.str)[Int.toNat (i : Int)]? = some (.str (nmAt i)) := by
    rw [Int.toNat_natCast, List.getElem?_map, List.getElem?_eq_getElem (show i < sNames.length from hi)]
    unfold nmAt
    rw [List.getD_eq_getElem?_getD, List.getElem?_eq_getElem (show i < sNames.length from hi), Option.getD_some]
    rfl
   refine my_itemE N5 (.head _) hnv (by w_how) hnk (by show 5 < _; w_how) ?_
   intro v9 hv9
   f_tup
   (refine arr ?_ (str_inv hv9); km_mul tn9; k_extra "sr")
   f_tup
   k_steps
   refine Stop.mk ?_
   f_tup
   rename Fr _ _ _ _ => F6
   rename News _ _ _ _ => N6
   refine DoesS.use hSL K0 F6 (by k_asm) (by k_asm) N6 rfl (law_acts_does hInts (by w_how) (by w_how) (by w_how)) (by ktr_room) (by ktr_units) ?_
   intro v6 h6 tk6 news6 F7 N7
   (km_mul Da; km_mul avs; km_mul an; km_mul acts; km_mul add; k_extra "st"; k_extra "sr"; km_mul hma; km_mul hna; km_mul hoka; km_mul hda; k_extra "sr")
   f_tup
   rw [Int.toNat_natCast] at hoka
   clear F6 N6
   have N8 : News _ _ h6 ((D9, listOf nvs.toArray nn) :: (I, it) :: (ho, instObj 534 hdd) :: (hdd, dictOf (hoD _ hc 0 dt 0 st) 12) :: (hc.tl, ot2) :: (hc.il, oi) :: (hc.vr, ov) :: (hc.cm, oc') :: (hc.fi, of) :: (rd, od') :: (add ++ (X ++ bs))) := fun p hp => N7 p (by revert p hp; kqd_sub)
   clear N7
   have x4 : ∀ p ∈ add, p.1 ≠ rd := hna.off (o := od') (by first | k_mem | simp)
   have x5 : ∀ p ∈ add, p.1 ≠ hdd := New.off hna (.tail _ (.tail _ (.tail _ (.head _))))
   have x6 : ∀ p ∈ add, p.1 ≠ hc.cm := hna.off (o := oc') (by first | k_mem | simp)
   f_tup
   k_steps
   refine Stop.mk ?_
   f_tup
   rename Fr _ _ _ _ => F6
   rename News _ _ _ _ => N6
   have hka : valueAt kvr (nmAt i) = none := (hTab.2.2.2.1 i (Nat.le_refl _) hi).2
   have hkb : valueAt kvs (nmAt i) = none := (hTab.2.2.2.1 i (Nat.le_refl _) hi).1
   have hla := hTab.2.1
   have hlb := hTab.2.2.1
   refine' kda_set (knd := PySem.strKind _ _) F6 N6 ?stU hod (strKind_is _ _ _ _) ?stz ?_
   case stU => k_updF
   case stz => rw [sizeLine_eq]; w_how
   intro h5 od2 F5 N5 hd5
   have hkc : valueAt (stored kvr (nmAt i) (.ref Da)) (nmAt i) = some (.ref Da) := by rw [valueAt_stored hka, if_pos rfl]
   try dsimp only at N5
   f_tup
   k_steps
   refine Stop.mk ?_
   f_tup
   rename Fr _ _ _ _ => F6
   rename News _ _ _ _ => N6
   f_tup
   (refine arr ?_ (led1 N6); km_mul zd; km_mul od9; k_extra "st"; k_extra "sr"; intro hzd)
   refine Does.use K0 F6 (by k_asm) (by k_asm) (fun p hp => N6 p ?pusub) rfl (put_does (ot := ot2) (oi := oi) (ov := ov) (oc := oc') (of := of) (kvs := kvs) (t0 := dt) (t1 := st) (nm := nmAt i) (rest := (zd, tupO [.ref ev, .ref lg, .ref Da] 0) :: (I, it) :: (rd, od2) :: (add ++ (X ++ bs))) g10 (by k_all) (by k_all) g19 g18 g20 g21 g22 g23 g11 g12 g13 g15 d2 s2 hoc s3 d4 s4 hkb (by w_how)) (by ktr_room) (by ktr_units) ?_
   case pusub =>
    revert p hp
    dsimp only [hoL]
    kqd_sub
   intro v4 h4 tk4 news4 F4 N4
   (k_extra "st"; k_extra "sr"; km_mul z; km_mul oc2; k_extra "st"; k_extra "sr"; km_mul hoc2; intro lz)
   f_tup
   clear F6 N6
   simp only [hoL, List.forall_mem_cons, List.forall_mem_append] at lz
   f_tup
   (revert lz; km_mul z1; km_mul z2; km_mul z3; km_mul z4; km_mul z5; km_mul z6; km_mul z7; km_mul z8; km_mul z9; km_mul z10; km_mul z11; km_mul z12; intro z13)
   f_tup
   k_steps
   rename Fr _ _ _ _ => F6
   rename News _ _ _ _ => N6
   have nadd : ∀ P, New (L1 P ho hdd hc dt st rd ot2 oi ov oc of od bs) add := fun P => new_map hna fun p hp => by
    simp only [L1, hoL, List.mem_cons] at hp
    rcases hp with rfl | rfl | rfl | rfl | rfl | rfl | rfl | rfl | hp
    rotate_right
    ·exact List.mem_map_of_mem (f := Prod.fst) (by simp [hp])
    all_goals simp
   refine UnrEnd.intro F6 N6 (L1 _ ho hdd hc dt st rd ot2 oi ov oc2 of od2 (((z, tupO [.ref 585, .ref zd] 0) :: (zd, tupO [.ref ev, .ref lg, .ref Da] 0) :: (add ++ X)) ++ bs)) ?us ?uo ⟨fun y y1 y2 => by simp only [if_neg y1, if_neg y2], stored kvs (nmAt i) (.ref z), stored kvr (nmAt i) (.ref Da), oc2, od2, accs ++ [acts], _, rfl, hTab.succ hi (fun p hp => .tail _ (.tail _ (List.mem_append_right _ hp))) hoka (.head _) (.tail _ (.head _)) (.tail _ (.tail _ (List.mem_append_left _ hma))) (hda.mono fun p hp => .tail _ (.tail _ (List.mem_append_left _ hp))), hoc2, hd5, ?nw, ?xi, hLI⟩
   case us =>
    dsimp only [L1, hoL, List.cons_append, List.nil_append]
    kqd_sub
   case nw =>
    refine new_cons (by dsimp only [L1, hoL]; simp only [List.forall_mem_cons]; exact ⟨Nat.ne_of_lt z1, Nat.ne_of_lt z2, Nat.ne_of_lt z3, Nat.ne_of_lt z4, Nat.ne_of_lt z5, Nat.ne_of_lt z6, Nat.ne_of_lt z7, Nat.ne_of_lt z10, fun p hp => Nat.ne_of_lt (z13 p hp)⟩) (new_cons (by dsimp only [L1, hoL]; k_all) (new_app (nadd _) hnew))
   case xi =>
    refine List.forall_mem_cons.mpr ⟨Nat.ne_of_gt z9, List.forall_mem_cons.mpr ⟨by k_ne, fun p hp => ?_⟩⟩
    rcases List.mem_append.mp hp with hp | hp
    ·exact Ne.symm (hna p hp (I, it) (.tail _ (.head _)))
    ·exact hXI p hp
   case uo =>
    simp only [L1, hoL, List.forall_mem_cons] at hLI
    f_tup
    (revert hLI; km_mul i1; km_mul i2; km_mul i3; km_mul i4; km_mul i5; km_mul i6; km_mul i7; km_mul i8; intro i9)
    dsimp only [L1, hoL, List.cons_append]
    simp only [List.forall_mem_cons, List.forall_mem_append]
    exact ⟨Nat.ne_of_lt i1, Nat.ne_of_lt i2, Nat.ne_of_lt i3, Nat.ne_of_lt i4, Nat.ne_of_lt i5, Nat.ne_of_lt i6, Nat.ne_of_lt i7, Nat.ne_of_lt i8, Nat.ne_of_gt z9, by k_ne, ⟨fun p hp => Ne.symm (hna p hp (I, it) (.tail _ (.head _))), hXI⟩, fun p hp => Nat.ne_of_lt (i9 p hp)⟩
  ·skip
   intro I l u1 u2 h tk
   (km_mul kvs; km_mul kvr; km_mul oc'; km_mul od'; km_mul accs; km_mul X; k_extra "st"; k_extra "sr"; km_mul hTab; km_mul hoc; km_mul hod; km_mul hnew; km_mul hXI; intro hLI)
   intro F5 N5
   f_tup
   clear F6 N6
   have okA := hTab.ok
   have lr : ∀ x ∈ bs.map (·.1), @LT.lt Nat _ x rd := fun x hx => by
    f_tup
    (refine arr ?_ (List.mem_map.mp hx); km_mul p; km_mul hp; k_extra "sr")
    exact lrd p hp
   have hX9 : ∀ p ∈ X, p.1 ∉ (hoL _ ho hdd hc 0 dt 0 st ((hc.tl, ot2) :: (hc.il, oi) :: (hc.vr, ov) :: (hc.cm, oc) :: (hc.fi, of) :: (rd, od) :: bs)).map (·.1) := fun p hp hm => by
    f_tup
    (refine arr ?_ (List.mem_map.mp hm); km_mul q; km_mul hq; intro e)
    exact hnew p hp q hq e
   subst hbs
   have nd9 := start_nodup nbs lr q1 q2 q3 q4 q5 q6 q7
   f_tup
   (refine arr ?_ (start_bo N5 nd9 hX9 cq ci cl hbk); km_mul l0; km_mul hB0; intro N4)
   have hC0 := hTab.cmds (hc := hc) (r := (hc.tl, ot2) :: (hc.il, oi) :: (hc.vr, ov) :: (hc.cm, oc') :: (hc.fi, of) :: (rd, od') :: X) (oc := oc') (ot := ot2) (fun p hp => by simp [hp]) (by first | k_mem | simp) hoc s3 (by first | k_mem | simp) hot s1 (by rw [valueAt_stored rfl, if_pos rfl])
   have hW0 := hTab.rws (rd := rd) (od := od') (r := (hc.tl, ot2) :: (hc.il, oi) :: (hc.vr, ov) :: (hc.cm, oc') :: (hc.fi, of) :: (rd, od') :: X) (fun p hp => by simp [hp]) (by first | k_mem | simp) hod
   have hJ0 : J3 _ _ ev ed lg c.er ho hdd bk rd hc (actsOf accs) 0 _ (ev0 n9) [] (bk0 n9) l0 := ⟨hC0, hW0, turned0 n9, hB0⟩
   clear hC0 hW0 hB0 hX9 N5 hnew
   f_tup
   k_steps
   refine Stop.mk ?_
   f_tup
   rename IsRange _ _ _ _ _ _ _ _ => hR8
   rename Fr _ _ _ _ => F6
   rename News _ _ _ _ => N6
   (try (with_reducible refine unw (by assumption) ?_))
   refine rangeJ1 14 (Str.ofString "name") (fun I i l => (∃ r a errs B, J3 _ _ ev ed lg c.er ho hdd bk rd hc (actsOf accs) i r a errs B l) ∧ ∀ p ∈ l, p.1 ≠ I) rfl hR8 (by decide) range14 F6 N6 (fun I hI => ⟨⟨_, _, _, _, hJ0⟩, fun p hp => Nat.ne_of_lt (hI p hp)⟩) ?_ ?_
   ·skip
    intro i l I it t u h tk hi
    (k_extra "st"; km_mul r; km_mul a; km_mul errs; km_mul B; intro hJ; intro hI)
    intro F5 N5
    f_tup
    clear F6 N6
    f_tup
    k_steps
    refine Stop.mk ?_
    f_tup
    rename Fr _ _ _ _ => F6
    rename News _ _ _ _ => N6
    refine DoesS.use hSL K0 F6 (by k_asm) (by k_asm) N6 rfl (law_deed_does hInts (by w_how) (by w_how) (by w_how)) (by ktr_room) (by ktr_units) ?_
    intro v6 h6 tk6 news6 F7 N7
    (km_mul z; km_mul kk; km_mul wt; km_mul x; km_mul t1; km_mul t2; km_mul t3; km_mul nn; km_mul add; k_extra "st"; k_extra "sr"; km_mul hz; km_mul hnew; km_mul hok; k_extra "sr")
    f_tup
    clear F6 N6
    f_tup
    (refine arr ?_ (hJ.more (add := add) (fun p hp q hq => hnew p hp q (.tail _ hq))); km_mul l2; km_mul hJ2; intro hs2)
    f_tup
    obtain ⟨l3, N3, cc⟩ := turn_use (mt := [(I, it)]) okA hJ2 (fun p hp q hq => by
     rw [List.mem_singleton.mp hp]
     rcases List.mem_append.mp (hs2 q hq) with hq | hq
     ·exact Ne.symm (hnew q hq (I, it) (.head _))
     ·exact hI q hq) (List.mem_append_left _ hz) hok (by w_how) (fun p hp => N7 p (by
      rcases List.mem_cons.mp hp with rfl | hp
      ·exact List.mem_append_right _ (.head _)
      rcases List.mem_append.mp (hs2 p hp) with hp | hp
      ·exact List.mem_append_left _ hp
      ·exact List.mem_append_right _ (.tail _ hp)))
    f_tup
    k_steps
    refine Stop.mk ?_
    f_tup
    rename Fr _ _ _ _ => F6
    refine DoesX.use0 K0 F6 (by k_asm) (by k_asm) N3 rfl cc (by ktr_room) (by ktr_units) ?_
    intro v5 h5 tk5 news5 F5 N5
    (k_extra "st"; k_extra "sr"; km_mul hmt; km_mul r'; km_mul a'; km_mul errs'; km_mul B'; km_mul l4; km_mul up; km_mul hs4; km_mul hJ4; km_mul hI4; k_extra "sc")
    f_tup
    clear F6 N3 N7
    f_tup
    k_steps
    rename Fr _ _ _ _ => F6
    rename News _ _ _ _ => N6
    refine UnrEnd.intro F6 N6 l4 ?_ (fun p hp => hI4 (I, it) (.head _) p hp) ⟨fun y y1 y2 => by simp only [if_neg y1, if_neg y2], ⟨r', a', errs', B', hJ4.to (by split <;> w_how)⟩, fun p hp => hI4 (I, it) (.head _) p hp⟩
    intro p hp
    rcases List.mem_cons.mp hp with rfl | hp
    ·exact hmt _ (.head _)
    ·exact hs4 p hp
   ·skip
    clear hJ0 hTab hoc hod hXI nbs lrd hLI lr nd9 hR8 hR9 hrd hbk hot cq ci cl d1 s1 d2 s2 d3 s3 d4 s4 t1 t2 t3 t4 t5 t6 t7 t8 g1 g2 g3 g4 g5 g6 g7 g8 g9 g10 g11 g12 g13 g14 g15 g16 g17 g18 g19 g20 g21 g22 g23 g24 q1 q2 q3 q4 q5 q6 q7
    repeat (rename News _ _ _ _ => hz9; clear hz9)
    repeat (rename Fr _ _ _ _ => hz9; clear hz9)
    repeat (rename Obj.IsDictOf _ _ _ => hz9; clear hz9)
    intro I l u1 u2 h tk
    (k_extra "st"; km_mul r; km_mul a; km_mul errs; km_mul B; intro hJ; intro hI)
    intro F5 N5
    f_tup
    clear hI
    f_tup
    k_steps
    refine Stop.mk ?_
    f_tup
    rename Fr _ _ _ _ => F6
    rename News _ _ _ _ => N6
    refine while_J (fun n l => ∃ r a errs B, J3 _ _ ev ed lg c.er ho hdd bk rd hc (actsOf accs) 14 r a errs B l ∧ pot a = n) F6 N6 ⟨r, a, errs, B, hJ, rfl⟩ ?_ ?hE
    case hE => passes_own
    clear F6 N6 hJ
    intro n l₁ h₁ tk₁ F₁ N₁
    (km_mul r; km_mul a; km_mul errs; km_mul B; km_mul hJ; k_extra "sr")
    f_tup
    f_tup
    first | (refine arr ?_ (id hJ); km_mul hC; km_mul hW; km_mul hT; intro hBo) | (obtain ⟨hC, hW, hT, hBo⟩ := id hJ)
    f_tup
    (revert hBo; km_mul c1; km_mul es; km_mul ne; km_mul dt1; km_mul sp1; km_mul st1; km_mul C; km_mul e1; km_mul S; km_mul R; km_mul hes; km_mul K; km_mul KR; k_extra "sr")
    have wfK := hT.rel.wfK hT.wf hT.len
    have wfl := wfK.len
    have okI : ∀ d ∈ B.rows.map rwD, kqdOk 8 d = true := fun d hd => by
     f_tup
     (refine arr ?_ (List.mem_map.mp hd); km_mul t; km_mul ht; k_extra "sr")
     have := names_ok _ (wfK.nm t ht)
     simp [rwD, kqdOk, this]
    f_tup
    first | (refine arr ?_ (id KR); km_mul E0; km_mul E1; km_mul E2; intro E3) | (obtain ⟨E0, E1, E2, E3⟩ := id KR)
    have hlen : C.rv.length = B.rows.length := by rw [E1.length, List.length_map]
    clear hC hW R hes K KR E2 E3 wfK
    dsimp only [wL, hoL, evL, bkL, List.nil_append] at N₁
    by_cases hr : B.rows.length = 0
    ·k_steps
     refine Stop.mk ?_
     f_tup
     rename Fr _ _ _ _ => F6
     refine' For_invVF ?kF ?k1 ?k2 ?k3 ?k4 ?k5
     case kF => exact F6
     case k1 => exact rfl
     case k2 => exact rfl
     case k4 => (intro _; with_unfolding_all rfl)
     case k5 => passes_own
     f_tup
     k_steps
     refine Stop.mk ?_
     f_tup
     rename Fr _ _ _ _ => F6
     rename News _ _ _ _ => N6
     f_tup
     (refine arr ?_ (led_5 N6); km_mul r5; intro hr5)
     f_tup
     obtain ⟨l2, hJ2, hs2⟩ := hJ.more (add := r5) (by
      rw [hr5]
      dsimp only [wL, hoL, evL, bkL, List.nil_append]
      (repeat (refine new_cons (by k_all) ?_))
      exact new_nil)
     (try (with_reducible refine unw (by assumption) ?_))
     refine' loopU tD (fun x9 : Led => x9) r5 (fun pre tl x9 => tl = [] ∧ ∃ r a errs B, J3 PySem.Challenge.rw_np0139_01.row.prog w ev ed lg c.er ho hdd bk rd hc (actsOf accs) (14 + pre.length) r a errs B x9 ∧ ∀ p ∈ r5, p ∈ r) (c₀ := l2) (ds := four) (r := r5) ?lphl ?lpD rfl F6 ?lpN ?lphp ?lpturn ?lpdone
     case lphl => rw [hr5]; exact .head _
     case lpD =>
      rw [hr5]
      exact .cons (.tuple (by k_mem) (.cons (.int _ _) (.cons (.int _ _) (.cons (.str _ _) .nil)))) (.cons (.tuple (by k_mem) (.cons (.int _ _) (.cons (.int _ _) (.cons (.str _ _) .nil)))) (.cons (.tuple (by k_mem) (.cons (.int _ _) (.cons (.int _ _) (.cons (.str _ _) .nil)))) (.cons (.tuple (by k_mem) (.cons (.int _ _) (.cons (.int _ _) (.cons (.str _ _) .nil)))) .nil)))
     case lpN =>
      intro p hp
      refine N6 p ?_
      replace hp : p ∈ l2 ∨ p ∈ r5 := List.mem_append.mp hp
      replace hp := hp.elim (hs2 p) fun h => List.mem_append_left _ h
      rw [hr5] at hp
      revert p hp
      dsimp only [wL, hoL, evL, bkL, List.cons_append, List.nil_append]
      kqd_sub
     case lphp => exact ⟨rfl, _, a, errs, B, hJ2, fun p hp => List.mem_append_left _ hp⟩
     case lpturn =>
      intro pre
      (km_mul k; km_mul wt; intro x)
      intro post v l6 tl h9 tk9 own hds hv
      (k_extra "st"; k_extra "sr"; km_mul r; km_mul a; km_mul errs; km_mul B; km_mul hJ; intro hr4)
      intro hown F8 N8
      f_tup
      clear F6 N6
      f_tup
      (refine arr ?_ (tD_inv hv); km_mul z7; km_mul cz; km_mul v1; km_mul v2; km_mul v3; k_extra "st"; k_extra "sr"; intro hzz)
      have hok := four_ok (k, wt, x) (by rw [hds]; simp)
      have hlt : pre.length < 4 := by
       have := congrArg List.length hds
       simp [four] at this
       w_how
      have hown' : ∀ p ∈ own, ∀ q ∈ l6, q.1 ≠ p.1 := fun p hp q hq => Ne.symm (hown q (List.mem_append_left _ hq) p hp)
      f_tup
      obtain ⟨l3, N3, cc⟩ := turn_use (mt := own) okA hJ hown' (hr4 _ hzz) hok (by w_how) (fun p hp => N8 p (by
       rcases List.mem_append.mp hp with hp | hp
       ·exact List.mem_append_right _ (List.mem_append_right _ (List.mem_append_left _ hp))
       ·exact List.mem_append_left _ hp))
      f_tup
      k_steps
      refine Stop.mk ?_
      f_tup
      rename Fr _ _ _ _ => F6
      refine DoesX.use0 K0 F6 (by k_asm) (by k_asm) N3 rfl cc (by ktr_room) (by ktr_units) ?_
      intro v5 h5 tk5 news5 F5 N5
      (k_extra "st"; k_extra "sr"; km_mul hmt; km_mul r'; km_mul a'; km_mul errs'; km_mul B'; km_mul l4; km_mul up; km_mul hs4; km_mul hJ4; km_mul hI4; k_extra "sc")
      f_tup
      clear F6 N3 N8
      f_tup
      k_steps
      rename Fr _ _ _ _ => F6
      rename News _ _ _ _ => N6
      refine UPost.next l4 [] F6 N6 (fun y hy => by simp only [if_neg hy]) ?_ (fun p hp q hq => Ne.symm (hI4 q hq p (by simpa using hp))) ⟨rfl, r', a', errs', B', hJ4.to (by rw [List.length_append]; simp only [List.length_cons, List.length_nil]; split <;> w_how), fun p hp => up p (hr4 p hp)⟩
      intro p hp
      simp only [List.nil_append, List.mem_append] at hp
      rcases hp with hp | hp | hp
      ·exact hs4 p hp
      ·exact hmt p hp
      ·exact hs4 p (hJ4.bo.sub.1 p (up p (hr4 p hp)))
     case lpdone =>
      intro l6 tl u6 h6 tk6
      (k_extra "st"; k_extra "sr"; km_mul r; km_mul a; km_mul errs; km_mul B; km_mul hJ; k_extra "sc")
      intro F5 N5
      f_tup
      have N7 : News _ _ h6 l6 := fun p hp => N5 p (List.mem_append_left _ hp)
      clear F6 N6 N5 hJ2
      f_tup
      k_steps
      refine Stop.mk ?_
      f_tup
      rename Fr _ _ _ _ => F6
      rename News _ _ _ _ => N6
      refine while_J (fun n l => ∃ r a errs B, J3 _ _ ev ed lg c.er ho hdd bk rd hc (actsOf accs) 18 r a errs B l ∧ pot a = n) F6 N6 ⟨r, a, errs, B, hJ, rfl⟩ ?_ ?hE
      case hE => passes_own
      clear F6 N6 hJ
      intro n l₁ h₁ tk₁ F₁ N₁
      (km_mul r; km_mul a; km_mul errs; km_mul B; km_mul hJ; k_extra "sr")
      f_tup
      f_tup
      first | (refine arr ?_ (id hJ); km_mul hC; km_mul hW; km_mul hT; intro hBo) | (obtain ⟨hC, hW, hT, hBo⟩ := id hJ)
      f_tup
      (revert hBo; km_mul c1; km_mul es; km_mul ne; km_mul dt1; km_mul sp1; km_mul st1; km_mul C; km_mul e1; km_mul S; km_mul R; km_mul hes; km_mul K; km_mul KR; k_extra "sr")
      have wfK := hT.rel.wfK hT.wf hT.len
      have wfl := wfK.len
      have okI : ∀ d ∈ B.rows.map rwD, kqdOk 8 d = true := fun d hd => by
       f_tup
       (refine arr ?_ (List.mem_map.mp hd); km_mul t; km_mul ht; k_extra "sr")
       have := names_ok _ (wfK.nm t ht)
       simp [rwD, kqdOk, this]
      f_tup
      first | (refine arr ?_ (id KR); km_mul E0; km_mul E1; km_mul E2; intro E3) | (obtain ⟨E0, E1, E2, E3⟩ := id KR)
      have hlen : C.rv.length = B.rows.length := by rw [E1.length, List.length_map]
      clear hC hW R hes K KR E2 E3 wfK
      dsimp only [wL, hoL, evL, bkL, List.nil_append] at N₁
      by_cases hr : B.rows.length = 0
      ·k_steps
       refine Stop.mk ?_
       f_tup
       rename News _ _ _ _ => N6
       rename Fr _ _ _ _ => F6
       f_tup
       (refine arr ?_ (led1 N6); km_mul z; km_mul oz; k_extra "st"; k_extra "sr"; intro hz)
       rw [← hz] at N6
       f_tup
       (refine arr ?_ (hJ.more (add := [(z, oz)]) (new_cons (by dsimp only [wL, hoL, evL, bkL, List.nil_append]; k_all) new_nil)); km_mul l2; km_mul hJ2; intro hs2)
       f_tup
       obtain ⟨l3, N3, cc⟩ := turn_use (mt := []) (k := 5) (wt := 1) (x := Str.ofString "") okA hJ2 (fun _ h => nomatch h) (by rw [hz]; exact .head _) (by unfold DeedOk; decide +kernel) (by w_how) (fun p hp => N6 p (by
        replace hp := hs2 p hp
        revert p hp
        dsimp only [wL, hoL, evL, bkL, List.cons_append, List.nil_append]
        kqd_sub))
       refine DoesX.use0 K0 F6 (by k_asm) (by k_asm) N3 rfl cc (by ktr_room) (by ktr_units) ?_
       intro v5 h5 tk5 news5 F5 N5
       (k_extra "st"; k_extra "sr"; k_extra "st"; k_extra "sc"; km_mul r'; km_mul a'; km_mul errs'; km_mul B'; km_mul l4; km_mul up; km_mul hs4; km_mul hJ4; k_extra "st"; k_extra "sc"; k_extra "sc")
       f_tup
       f_tup
       first | (revert hJ4; k_extra "st"; k_extra "sc"; k_extra "st"; k_extra "sc"; k_extra "st"; k_extra "sc"; intro hBo) | (obtain ⟨-, -, -, hBo⟩ := hJ4)
       f_tup
       (revert hBo; km_mul c2; km_mul es2; km_mul ne2; km_mul dt2; km_mul sp2; km_mul st2; km_mul C2; k_extra "st"; k_extra "sc"; k_extra "st"; k_extra "sc"; k_extra "st"; k_extra "sc"; k_extra "st"; k_extra "sc"; k_extra "st"; k_extra "sc"; k_extra "st"; k_extra "sc"; k_extra "sr")
       have N7 := fun p hp => N5 p (hs4 p hp)
       clear F6 N6 N3 N5 hJ hJ2
       dsimp only [wL, hoL, evL, bkL, List.nil_append] at N7
       f_tup
       k_steps
       all_goals exact hQ _ _ _ (by assumption)
      ·skip
       f_tup
       k_steps
       refine Stop.mk ?_
       f_tup
       rename News _ _ _ _ => N6
       rename Fr _ _ _ _ => F6
       f_tup
       (refine arr ?_ (led1 N6); km_mul z; km_mul oz; k_extra "st"; k_extra "sr"; intro hz)
       rw [← hz] at N6
       f_tup
       (refine arr ?_ (hJ.more (add := [(z, oz)]) (new_cons (by dsimp only [wL, hoL, evL, bkL, List.nil_append]; k_all) new_nil)); km_mul l2; km_mul hJ2; intro hs2)
       f_tup
       obtain ⟨l3, N3, cc⟩ := turn_use (mt := []) (k := 5) (wt := 1) (x := Str.ofString "") okA hJ2 (fun _ h => nomatch h) (by rw [hz]; exact .head _) (by unfold DeedOk; decide +kernel) (by w_how) (fun p hp => N6 p (by
        replace hp := hs2 p hp
        revert p hp
        dsimp only [wL, hoL, evL, bkL, List.cons_append, List.nil_append]
        kqd_sub))
       refine DoesX.use0 K0 F6 (by k_asm) (by k_asm) N3 rfl cc (by ktr_room) (by ktr_units) ?_
       intro v5 h5 tk5 news5 F5 N5
       (k_extra "st"; k_extra "sr"; k_extra "st"; k_extra "sc"; km_mul r'; km_mul a'; km_mul errs'; km_mul B'; km_mul l4; km_mul up; km_mul hs4; km_mul hJ4; k_extra "st"; k_extra "sc"; intro hlt)
       f_tup
       clear F6 N6 N3
       f_tup
       k_steps
       rename Fr _ _ _ _ => F6
       exact ⟨rfl, _, _, _, l4, rfl, F6, fun p hp => N5 p (hs4 p hp), hlt (by decide) rfl (fun e => hr (by rw [e]; rfl)), r', a', errs', B', hJ4, rfl⟩
    ·skip
     f_tup
     k_steps
     refine Stop.mk ?_
     f_tup
     rename News _ _ _ _ => N6
     rename Fr _ _ _ _ => F6
     f_tup
     (refine arr ?_ (led1 N6); km_mul z; km_mul oz; k_extra "st"; k_extra "sr"; intro hz)
     rw [← hz] at N6
     f_tup
     (refine arr ?_ (hJ.more (add := [(z, oz)]) (new_cons (by dsimp only [wL, hoL, evL, bkL, List.nil_append]; k_all) new_nil)); km_mul l2; km_mul hJ2; intro hs2)
     f_tup
     obtain ⟨l3, N3, cc⟩ := turn_use (mt := []) (k := 5) (wt := 1) (x := Str.ofString "") okA hJ2 (fun _ h => nomatch h) (by rw [hz]; exact .head _) (by unfold DeedOk; decide +kernel) (by w_how) (fun p hp => N6 p (by
      replace hp := hs2 p hp
      revert p hp
      dsimp only [wL, hoL, evL, bkL, List.cons_append, List.nil_append]
      kqd_sub))
     refine DoesX.use0 K0 F6 (by k_asm) (by k_asm) N3 rfl cc (by ktr_room) (by ktr_units) ?_
     intro v5 h5 tk5 news5 F5 N5
     (k_extra "st"; k_extra "sr"; k_extra "st"; k_extra "sc"; km_mul r'; km_mul a'; km_mul errs'; km_mul B'; km_mul l4; km_mul up; km_mul hs4; km_mul hJ4; k_extra "st"; k_extra "sc"; intro hlt)
     f_tup
     clear F6 N6 N3
     f_tup
     k_steps
     rename Fr _ _ _ _ => F6
     exact ⟨rfl, _, _, _, l4, rfl, F6, fun p hp => N5 p (hs4 p hp), hlt (by decide) rfl (fun e => hr (by rw [e]; rfl)), r', a', errs', B', hJ4, rfl⟩
 ) ?_
 intro q f
 simpa using f (default : (by exact Fin 1))
theorem ok9 : ∀ y, P9 y := Classical.choose_spec ex9 (by with_unfolding_all exact core9)
end law_h

end
theorem In_F13.in_F13 : True := trivial
noncomputable section
open In_F13 Off9 Noi9
local macro_rules | `(tactic| k_qdec) => `(tactic| first | exact gl1 | exact gl2)
theorem law_holds : PySem.Challenge.rw_np0139_01.Holds := by
 refine wr_z (by
 refine holds_law said1 fun said => ?_
 refine holds_open (q := view9) (loose := lz) (Xt := fun s => xlAt view9 [] s && recOk PySem.Challenge.rw_np0139_01.row.toRowW.records s) (XP := XL view9 []) (Yf := Hook.obs (kHook K9 adrs adrs_ok)) (Ya := Hook.val (kHook K9 adrs adrs_ok)) (YP := Hook.says (kHook K9 adrs adrs_ok)) (N := 8698) left9 (Hook.of _) (Hook.keeps _) (fun s e => xl_of s (Bool.and_eq_true_iff.mp e).1) XL.keeps (by rfl) (by rfl) (by rfl) (fun s e => recFacts_of (Bool.and_eq_true_iff.mp e).2) (by rfl) said chains1 ⟨rfl, rfl, rfl, rfl, rfl, by decide +kernel⟩ wit1 ?_
 k_go0
 rename Below _ _ _ _ => K0
 rename Heap.IsList _ _ _ => hSL
 rename IntsAre _ _ => hInts
 rename Fr _ _ _ _ => F0
 rename News _ _ _ _ => N0
 refine law_h.ok9 (_, _, _, _, _, _, _, _, _, _, _, _, _, _, _) K0 F0 (by k_asm) (by k_asm) N0 hSL hInts (by w_how) ?_ ?_
 ·intro h' tk m' F'
  show GoodW PySem.Challenge.rw_np0139_01.row.claim _ _ _ _ (.ok (.ret (.bool true))) _
  kc_close
 ·passes_own
 ) ?_
 intro q f
 simpa using f (default : (by exact Fin 1))

end
end Mine
theorem PySem.Challenge.cw_np0139_01_holds : PySem.Challenge.rw_np0139_01.Holds :=
 Mine.law_holds

